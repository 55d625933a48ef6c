import PyProof.Rows.All
import Wide.All
import OpenK.AllK
import Wide.FinOn
import HandS.ForMost
import HandS.IsInst
import HandS.Flow
import HandS.Wide
import HandS.TryOnly
import HandS.TupAny
import HandS.TupMul
import HandS.Deep
import HandS.RaiseMore
import HandS.SortKw
import KE.DataMinMax
import HandS.TupLe
import PySem.Challenge.RW_farrows_k11_spans
set_option Elab.async false
set_option linter.all false
set_option maxRecDepth 100000
set_option maxHeartbeats 4000000
set_option autoImplicit false
/-! The layer of plain data over the hand layer: what a Python value IS (D), how it lies in a heap (Rp), a def's slots told as data (OK), expressions and statements told over data alone (EV, EB, SD). -/
namespace Far
open PySem L2

/-- what a value is, without the heap -/
inductive D where
  | non | bl (b : Bool) | int (i : Int) | str (x : Str) | ty (n : String) | cls (a : Addr)
  | tup (xs : List D) | lst (xs : List D) | scr (xs : List D) | ins (C : Addr) (fs : List (Str × D)) | dK (kvs : List (Key × D))

section
variable (K : PySem.W.Frag) (H : Hp)
mutual
/-- v lies in H as the data d -/
inductive Rp : D → V → Prop
  | non : Rp .non .non
  | bl {b} : Rp (.bl b) (.bl b)
  | int {i} : Rp (.int i) (.int i)
  | str {x} : Rp (.str x) (.str x)
  | ty {n} : Rp (.ty n) (.ty n)
  | cls {a} : Rp (.cls a) (.ref a)
  | tup {a vs xs} : SqT K H a vs → RpL xs vs → Rp (.tup xs) (.ref a)
  | lst {a vs xs} : H a = some (.lst vs) → RpL xs vs → Rp (.lst xs) (.ref a)
  | scr {a vs xs} : SqL K H a vs → RpL xs vs → Rp (.scr xs) (.ref a)
  | ins {a dx C fs gs} : H a = some (.ins C dx gs) → RpF fs gs → Rp (.ins C fs) (.ref a)
  | dK {a fs gs} : H a = some (.dK gs) → RpK fs gs → Rp (.dK fs) (.ref a)
inductive RpL : List D → List V → Prop
  | nil : RpL [] []
  | cons {x v xs vs} : Rp x v → RpL xs vs → RpL (x :: xs) (v :: vs)
inductive RpF : List (Str × D) → List (Str × V) → Prop
  | nil : RpF [] []
  | cons {f x v xs vs} : Rp x v → RpF xs vs → RpF ((f, x) :: xs) ((f, v) :: vs)
inductive RpK : List (Key × D) → List (Key × V) → Prop
  | nil : RpK [] []
  | cons {f x v xs vs} : Rp x v → RpK xs vs → RpK ((f, x) :: xs) ((f, v) :: vs)
end
end

/-- all of H stands in H' -/
def Ex (H H' : Hp) : Prop := ∀ a o, H a = some o → H' a = some o
theorem Ex.refl (H : Hp) : Ex H H := fun _ _ h => h
theorem Ex.trans {H H1 H2 : Hp} (a : Ex H H1) (b : Ex H1 H2) : Ex H H2 := fun x o h => b x o (a x o h)
theorem Ex.new {H : Hp} {p : Addr} {o : HO} (h : H p = none) : Ex H (upd H p o) := fun a u e => by
  rw [upd_ne (ne_of_none e h)]; exact e
theorem Ex.none {H H' : Hp} {p : Addr} (e : Ex H H') (h : H' p = none) : H p = none := by
  cases h1 : H p with
  | none => rfl
  | some o => rw [e p o h1] at h; cases h
theorem Ex.rd {H H' : Hp} {a : Addr} {u : HO} (e : Ex H H') (h : Rd H a u) : Rd H' a u := by
  rcases h with h | ⟨o, h⟩
  · exact Or.inl (e a _ h)
  · exact Or.inr ⟨o, e a _ h⟩
theorem Ex.l {K : PySem.W.Frag} {H H' : Hp} {a : Addr} {xs : List V} (e : Ex H H') (h : SqL K H a xs) : SqL K H' a xs := h.imp e.rd id
theorem Ex.t {K : PySem.W.Frag} {H H' : Hp} {a : Addr} {xs : List V} (e : Ex H H') (h : SqT K H a xs) : SqT K H' a xs := h.imp e.rd id
section
variable {K : PySem.W.Frag} {H H' : Hp}
mutual
theorem Rp.mono (e : Ex H H') : ∀ {d v}, Rp K H d v → Rp K H' d v
  | _, _, .non => .non
  | _, _, .bl => .bl
  | _, _, .int => .int
  | _, _, .str => .str
  | _, _, .ty => .ty
  | _, _, .cls => .cls
  | _, _, .tup h r => .tup (e.t h) (RpL.mono e r)
  | _, _, .lst h r => .lst (e _ _ h) (RpL.mono e r)
  | _, _, .scr h r => .scr (e.l h) (RpL.mono e r)
  | _, _, .ins h r => .ins (e _ _ h) (RpF.mono e r)
  | _, _, .dK h r => .dK (e _ _ h) (RpK.mono e r)
theorem RpL.mono (e : Ex H H') : ∀ {d v}, RpL K H d v → RpL K H' d v
  | _, _, .nil => .nil
  | _, _, .cons h r => .cons (Rp.mono e h) (RpL.mono e r)
theorem RpF.mono (e : Ex H H') : ∀ {d v}, RpF K H d v → RpF K H' d v
  | _, _, .nil => .nil
  | _, _, .cons h r => .cons (Rp.mono e h) (RpF.mono e r)
theorem RpK.mono (e : Ex H H') : ∀ {d v}, RpK K H d v → RpK K H' d v
  | _, _, .nil => .nil
  | _, _, .cons h r => .cons (Rp.mono e h) (RpK.mono e r)
end
theorem RpL.length : ∀ {xs : List D} {vs : List V}, RpL K H xs vs → xs.length = vs.length
  | _, _, .nil => rfl
  | _, _, .cons _ r => congrArg (· + 1) r.length
theorem RpL.get : ∀ {xs : List D} {vs : List V} {i : Nat} {x : D}, RpL K H xs vs → xs[i]? = some x → ∃ v, vs[i]? = some v ∧ Rp K H x v
  | _, _, _, _, .nil, h => by simp at h
  | _, _, 0, _, .cons h _, e => by simp at e; subst e; exact ⟨_, rfl, h⟩
  | _, _, i + 1, x, .cons _ r, e => RpL.get (i := i) r (by simpa using e)
theorem RpL.getV : ∀ {xs : List D} {vs : List V} {i : Nat} {v : V}, RpL K H xs vs → vs[i]? = some v → ∃ x, xs[i]? = some x ∧ Rp K H x v
  | _, _, _, _, .nil, h => by simp at h
  | _, _, 0, _, .cons h _, e => by simp at e; subst e; exact ⟨_, rfl, h⟩
  | _, _, i + 1, x, .cons _ r, e => RpL.getV (i := i) r (by simpa using e)
theorem RpL.append : ∀ {xs ys : List D} {vs us : List V}, RpL K H xs vs → RpL K H ys us → RpL K H (xs ++ ys) (vs ++ us)
  | _, _, _, _, .nil, s => s
  | _, _, _, _, .cons h r, s => .cons h (r.append s)
theorem RpL.drop : ∀ {xs : List D} {vs : List V} (n : Nat), RpL K H xs vs → RpL K H (xs.drop n) (vs.drop n)
  | _, _, 0, r => r
  | _, _, _ + 1, .nil => .nil
  | _, _, n + 1, .cons _ r => r.drop n
theorem RpL.take : ∀ {xs : List D} {vs : List V} (n : Nat), RpL K H xs vs → RpL K H (xs.take n) (vs.take n)
  | _, _, 0, _ => .nil
  | _, _, _ + 1, .nil => .nil
  | _, _, n + 1, .cons h r => .cons h (r.take n)
theorem RpL.set {x : D} {v : V} (h : Rp K H x v) : ∀ {xs : List D} {vs : List V} (i : Nat), RpL K H xs vs → RpL K H (xs.set i x) (vs.set i v)
  | _, _, _, .nil => .nil
  | _, _, 0, .cons _ r => .cons h r
  | _, _, i + 1, .cons g r => .cons g (r.set h i)
theorem RpF.lookup {f : Str} {x : D} : ∀ {fs : List (Str × D)} {gs : List (Str × V)}, RpF K H fs gs → fs.lookup f = some x → ∃ v, gs.lookup f = some v ∧ Rp K H x v
  | _, _, .nil, h => by simp at h
  | _, _, .cons (f := g) h r, e => by
    rw [List.lookup_cons] at e ⊢
    by_cases q : (f == g) = true
    · rw [q] at e ⊢; cases e; exact ⟨_, rfl, h⟩
    · have q' : (f == g) = false := by simpa using q
      rw [q'] at e ⊢; exact r.lookup e
theorem RpF.nolook {f : Str} : ∀ {fs : List (Str × D)} {gs : List (Str × V)}, RpF K H fs gs → fs.lookup f = none → gs.lookup f = none
  | _, _, .nil, h => rfl
  | _, _, .cons (f := g) h r, e => by
    rw [List.lookup_cons] at e ⊢
    by_cases q : (f == g) = true
    · rw [q] at e; cases e
    · have q' : (f == g) = false := by simpa using q
      rw [q'] at e ⊢; exact r.nolook e
end
/-- a field stored -/
def putD (f : Str) (x : D) : List (Str × D) → List (Str × D)
  | [] => [(f, x)]
  | (g, y) :: r => if g = f then (g, x) :: r else (g, y) :: putD f x r
section
variable {K : PySem.W.Frag} {H : Hp}
theorem RpF.put {f : Str} {x : D} {v : V} (h : Rp K H x v) : ∀ {fs : List (Str × D)} {gs : List (Str × V)}, RpF K H fs gs → RpF K H (putD f x fs) (putF f v gs)
  | _, _, .nil => .cons h .nil
  | _, _, .cons (f := g) (vs := vs) q r => by
    unfold putD putF
    by_cases e : g = f
    · rw [if_pos e, if_pos e]; exact .cons h r
    · rw [if_neg e, if_neg e]; exact .cons q (r.put h)
theorem RpF.length : ∀ {fs : List (Str × D)} {gs : List (Str × V)}, RpF K H fs gs → fs.length = gs.length
  | _, _, .nil => rfl
  | _, _, .cons _ r => congrArg (· + 1) r.length
end

/-- a slot told: nothing known; data that nobody changes; a list that this frame alone holds; an instance that it alone holds -/
inductive S where
  | un | d (x : D) | own (xs : List D) | ob (C : Addr) (fs : List (Str × D))

/-- He: the heap at the entry; Ge: what of it was told as data; G: what is told as data now; H: the heap now -/
def SlotOk (K : PySem.W.Frag) (He G H : Hp) : S → Option V → Prop
  | .un, _ => True
  | .d x, o => ∃ v, o = some v ∧ Rp K G x v
  | .own xs, o => ∃ p vs, o = some (.ref p) ∧ He p = none ∧ G p = none ∧ H p = some (.lst vs) ∧ RpL K G xs vs
  | .ob C fs, o => ∃ a dx gs, o = some (.ref a) ∧ He a = none ∧ G a = none ∧ He dx = none ∧ G dx = none ∧ H a = some (.ins C dx gs) ∧ H dx = some (.own a) ∧ RpF K G fs gs
def owned : S → Bool
  | .own _ => true | .ob _ _ => true | _ => false
structure OKG (K : PySem.W.Frag) (He Ge H G : Hp) (σ : St) (δ : List S) : Prop where
  ge : Ex Ge G
  gh : Ex G H
  he : Ex He H
  nc : ∀ b, He b ≠ none → Ge b = none → G b = none
  sl : ∀ (i : Nat) (s : S), δ[i]? = some s → ∃ o, σ[i]? = some o ∧ SlotOk K He G H s o
  ne : ∀ (i j : Nat) (s t : S) (p : Addr), i ≠ j → δ[i]? = some s → δ[j]? = some t → owned s = true → owned t = true → σ[i]? = some (some (.ref p)) → σ[j]? = some (some (.ref p)) → False
def OK (K : PySem.W.Frag) (He Ge H : Hp) (σ : St) (δ : List S) : Prop := ∃ G, OKG K He Ge H G σ δ
theorem SlotOk.mono {K : PySem.W.Frag} {He G G' H H' : Hp} {s : S} {o : Option V} (e : Ex G G') (k : ∀ p u, He p = none → G p = none → H p = some u → H' p = some u ∧ G' p = none) (h : SlotOk K He G H s o) : SlotOk K He G' H' s o := by
  cases s with
  | un => trivial
  | d x => obtain ⟨v, e1, r⟩ := h; exact ⟨v, e1, r.mono e⟩
  | own xs =>
    obtain ⟨p, vs, e1, h1, h2, h3, r⟩ := h
    obtain ⟨k1, k2⟩ := k p _ h1 h2 h3
    exact ⟨p, vs, e1, h1, k2, k1, r.mono e⟩
  | ob C fs =>
    obtain ⟨a, dx, gs, e1, h1, h2, h3, h4, h5, h6, r⟩ := h
    obtain ⟨k1, k2⟩ := k a _ h1 h2 h5
    obtain ⟨k3, k4⟩ := k dx _ h3 h4 h6
    exact ⟨a, dx, gs, e1, h1, k2, h3, k4, k1, k3, r.mono e⟩
section
variable {K : PySem.W.Frag} {He Ge H G : Hp} {σ : St} {δ : List S}
/-- the heap grows; G grows by what is new -/
theorem OKG.grow {H' G' : Hp} (h : OKG K He Ge H G σ δ) (e : Ex H H') (g : Ex G G') (gh : Ex G' H') (nc : ∀ b, H b ≠ none → G b = none → G' b = none) : OKG K He Ge H' G' σ δ where
  ge := h.ge.trans g
  gh := gh
  he := h.he.trans e
  nc := fun b h1 h2 => nc b (fun q => h1 (h.he.none q)) (h.nc b h1 h2)
  sl := fun i s q => by
    obtain ⟨o, e1, k⟩ := h.sl i s q
    exact ⟨o, e1, k.mono g fun p u _ h2 h3 => ⟨e p u h3, nc p (by rw [h3]; exact fun z => nomatch z) h2⟩⟩
  ne := h.ne
/-- one more value on top -/
theorem OKG.push {s : S} {o : Option V} (h : OKG K He Ge H G σ δ) (k : SlotOk K He G H s o) (n : owned s = true → ∀ (j : Nat) (t : S) (p : Addr), o = some (.ref p) → δ[j]? = some t → owned t = true → σ[j]? = some (some (.ref p)) → False) : OKG K He Ge H G (o :: σ) (s :: δ) where
  ge := h.ge
  gh := h.gh
  he := h.he
  nc := h.nc
  sl := fun i t q => by
    cases i with
    | zero => simp at q; subst q; exact ⟨o, rfl, k⟩
    | succ i => simp at q; simpa using h.sl i t q
  ne := fun i j s' t p hij hi hj o1 o2 e1 e2 => by
    cases i with
    | zero =>
      cases j with
      | zero => exact hij rfl
      | succ j => simp at hi hj e1 e2; subst hi; exact n o1 j t p e1 hj o2 e2
    | succ i =>
      cases j with
      | zero => simp at hi hj e1 e2; subst hj; exact n o2 i s' p e2 hi o1 e1
      | succ j => simp at hi hj e1 e2; exact h.ne i j s' t p (fun z => hij (by rw [z])) hi hj o1 o2 e1 e2
theorem OKG.pop {s : S} {o : Option V} (h : OKG K He Ge H G (o :: σ) (s :: δ)) : OKG K He Ge H G σ δ where
  ge := h.ge
  gh := h.gh
  he := h.he
  nc := h.nc
  sl := fun i t q => by simpa using h.sl (i + 1) t (by simpa using q)
  ne := fun i j s' t p hij hi hj o1 o2 e1 e2 => h.ne (i + 1) (j + 1) s' t p (by omega) (by simpa using hi) (by simpa using hj) o1 o2 (by simpa using e1) (by simpa using e2)
theorem OKG.top {s : S} {o : Option V} (h : OKG K He Ge H G (o :: σ) (s :: δ)) : SlotOk K He G H s o := by
  obtain ⟨o', e, k⟩ := h.sl 0 s rfl
  cases e; exact k
theorem OKG.pushD {x : D} {v : V} (h : OKG K He Ge H G σ δ) (r : Rp K G x v) : OKG K He Ge H G (some v :: σ) (.d x :: δ) := h.push ⟨v, rfl, r⟩ fun z => nomatch z
/-- a new object that is data at once -/
theorem OKG.newG {p : Addr} {u : HO} (h : OKG K He Ge H G σ δ) (hp : H p = none) : OKG K He Ge (upd H p u) (upd G p u) σ δ := by
  have hg : G p = none := h.gh.none hp
  refine h.grow (.new hp) (.new hg) (fun a o e => ?_) fun b h1 h2 => ?_
  · by_cases q : a = p
    · subst q; rw [upd_same] at e ⊢; exact e
    · rw [upd_ne q] at e ⊢; exact h.gh a o e
  · rw [upd_ne (fun q => h1 (by rw [q]; exact hp))]; exact h2
/-- a new object that is not told as data -/
theorem OKG.newH {p : Addr} {u : HO} (h : OKG K He Ge H G σ δ) (hp : H p = none) : OKG K He Ge (upd H p u) G σ δ :=
  h.grow (.new hp) (.refl G) (h.gh.trans (.new hp)) fun _ _ z => z
/-- slots weaker: some forgotten -/
def weak : List S → List S → Prop := fun δ δ' => ∀ (i : Nat) (s : S), δ'[i]? = some s → δ[i]? = some s ∨ (s = .un ∧ ∃ t, δ[i]? = some t)
theorem OKG.weak {δ' : List S} (h : OKG K He Ge H G σ δ) (w : weak δ δ') : OKG K He Ge H G σ δ' where
  ge := h.ge
  gh := h.gh
  he := h.he
  nc := h.nc
  sl := fun i t q => by
    rcases w i t q with z | ⟨rfl, t, z⟩
    · exact h.sl i t z
    · obtain ⟨o, e, _⟩ := h.sl i t z
      exact ⟨o, e, trivial⟩
  ne := fun i j s' t p hij hi hj o1 o2 e1 e2 => by
    rcases w i _ hi with z | ⟨rfl, _, z⟩
    · rcases w j _ hj with z2 | ⟨rfl, _, z2⟩
      · exact h.ne i j s' t p hij z z2 o1 o2 e1 e2
      · cases o2
    · cases o1
theorem OKG.len (h : OKG K He Ge H G σ δ) : δ.length ≤ σ.length := by
  rcases Nat.lt_or_ge σ.length δ.length with q | q
  · obtain ⟨o, e, _⟩ := h.sl σ.length (δ[σ.length]) (List.getElem?_eq_getElem q)
    simp at e
  · exact q
/-- a slot is stored -/
theorem OKG.store {i : Nat} {s : S} {o : Option V} (h : OKG K He Ge H G (o :: σ) (s :: δ)) (hi : i < δ.length) : OKG K He Ge H G (σ.set i o) (δ.set i s) := by
  have hl : i < σ.length := Nat.lt_of_lt_of_le hi h.pop.len
  refine ⟨h.ge, h.gh, h.he, h.nc, fun j t q => ?_, fun j k s' t p hjk hj hk o1 o2 e1 e2 => ?_⟩
  · by_cases z : i = j
    · subst z
      rw [List.getElem?_set_self hi] at q; cases q
      rw [List.getElem?_set_self hl]
      exact ⟨o, rfl, h.top⟩
    · rw [List.getElem?_set_ne z] at q ⊢
      exact h.pop.sl j t q
  · by_cases z : i = j
    · subst z
      rw [List.getElem?_set_self hi] at hj; cases hj
      rw [List.getElem?_set_ne hjk] at hk e2
      rw [List.getElem?_set_self hl] at e1
      cases e1
      exact h.ne 0 (k + 1) s t p (by omega) rfl (by simpa using hk) o1 o2 rfl (by simpa using e2)
    · by_cases z2 : i = k
      · subst z2
        rw [List.getElem?_set_self hi] at hk; cases hk
        rw [List.getElem?_set_ne z] at hj e1
        rw [List.getElem?_set_self hl] at e2
        cases e2
        exact h.ne 0 (j + 1) s s' p (by omega) rfl (by simpa using hj) o2 o1 rfl (by simpa using e1)
      · rw [List.getElem?_set_ne z] at hj e1
        rw [List.getElem?_set_ne z2] at hk e2
        exact h.pop.ne j k s' t p hjk hj hk o1 o2 e1 e2
/-- the list on top is data from now on -/
theorem OKG.freeze {xs : List D} {o : Option V} (h : OKG K He Ge H G (o :: σ) (.own xs :: δ)) : ∃ G', OKG K He Ge H G' (o :: σ) (.d (.lst xs) :: δ) := by
  obtain ⟨p, vs, rfl, h1, h2, h3, r⟩ := h.top
  refine ⟨upd G p (.lst vs), OKG.push (OKG.mk ?_ ?_ h.he ?_ ?_ h.pop.ne) ⟨_, rfl, .lst upd_same (r.mono (.new h2))⟩ fun z => nomatch z⟩
  · exact h.ge.trans (.new h2)
  · intro a o e
    by_cases q : a = p
    · subst q; rw [upd_same] at e; cases e; exact h3
    · rw [upd_ne q] at e; exact h.gh a o e
  · intro b q1 q2
    have q : b ≠ p := fun z => q1 (by rw [z]; exact h1)
    rw [upd_ne q]; exact h.nc b q1 q2
  · intro i s q
    obtain ⟨o, e, k⟩ := h.pop.sl i s q
    refine ⟨o, e, ?_⟩
    cases s with
    | un => trivial
    | d x => obtain ⟨v, e1, r'⟩ := k; exact ⟨v, e1, r'.mono (.new h2)⟩
    | own ys =>
      obtain ⟨p', vs', rfl, k1, k2, k3, r'⟩ := k
      have ne : p' ≠ p := fun z => h.ne 0 (i + 1) _ _ p (by omega) rfl (by simpa using q) rfl rfl rfl (by rw [← z]; simpa using e)
      exact ⟨p', vs', rfl, k1, by rw [upd_ne ne]; exact k2, k3, r'.mono (.new h2)⟩
    | ob C fs =>
      obtain ⟨a, dx, gs, rfl, k1, k2, k3, k4, k5, k6, r'⟩ := k
      have n1 : a ≠ p := fun z => by rw [z, h3] at k5; cases k5
      have n2 : dx ≠ p := fun z => by rw [z, h3] at k6; cases k6
      exact ⟨a, dx, gs, rfl, k1, by rw [upd_ne n1]; exact k2, k3, by rw [upd_ne n2]; exact k4, k5, k6, r'.mono (.new h2)⟩
/-- a list of one's own in slot i changes -/
theorem OKG.change {i : Nat} {xs ys : List D} {p : Addr} {vs us : List V} (h : OKG K He Ge H G σ δ) (hi : δ[i]? = some (.own xs)) (hp : σ[i]? = some (some (.ref p))) (hl : H p = some (.lst vs)) (r : RpL K G ys us) : OKG K He Ge (upd H p (.lst us)) G σ (δ.set i (.own ys)) := by
  obtain ⟨o, e, k⟩ := h.sl i _ hi
  obtain ⟨p', vs', e1, h1, h2, h3, r'⟩ := k
  rw [e] at hp
  cases hp
  cases e1
  have hlt : i < δ.length := (List.getElem?_eq_some_iff.mp hi).1
  refine ⟨h.ge, fun a o q => ?_, fun a o q => ?_, h.nc, fun j t q => ?_, fun j k s' t p' hjk hj hk o1 o2 e1 e2 => ?_⟩
  · rw [upd_ne (ne_of_none q h2)]; exact h.gh a o q
  · rw [upd_ne (ne_of_none q h1)]; exact h.he a o q
  · by_cases z : i = j
    · subst z
      rw [List.getElem?_set_self hlt] at q; cases q
      exact ⟨_, e, p, us, rfl, h1, h2, upd_same, r⟩
    · rw [List.getElem?_set_ne z] at q
      obtain ⟨o, eo, k⟩ := h.sl j t q
      refine ⟨o, eo, ?_⟩
      cases t with
      | un => trivial
      | d x => exact k
      | own zs =>
        obtain ⟨p2, vs2, rfl, k1, k2, k3, r2⟩ := k
        have ne : p2 ≠ p := fun y => h.ne i j _ _ p z hi q rfl rfl e (by rw [← y]; exact eo)
        exact ⟨p2, vs2, rfl, k1, k2, by rw [upd_ne ne]; exact k3, r2⟩
      | ob C fs =>
        obtain ⟨a, dx, gs, rfl, k1, k2, k3, k4, k5, k6, r2⟩ := k
        have n1 : a ≠ p := fun y => by rw [y, hl] at k5; cases k5
        have n2 : dx ≠ p := fun y => by rw [y, hl] at k6; cases k6
        exact ⟨a, dx, gs, rfl, k1, k2, k3, k4, by rw [upd_ne n1]; exact k5, by rw [upd_ne n2]; exact k6, r2⟩
  · have un : ∀ (m : Nat) (s : S), (δ.set i (.own ys))[m]? = some s → owned s = true → ∃ s2, δ[m]? = some s2 ∧ owned s2 = true := fun m s q q2 => by
      by_cases z : i = m
      · subst z; exact ⟨_, hi, rfl⟩
      · rw [List.getElem?_set_ne z] at q; exact ⟨s, q, q2⟩
    obtain ⟨s2, q1, q2⟩ := un j _ hj o1
    obtain ⟨t2, q3, q4⟩ := un k _ hk o2
    exact h.ne j k s2 t2 p' hjk q1 q3 q2 q4 e1 e2
end
end Far
/-! Expressions, targets, sources, statements told over data alone. -/
namespace Far
open PySem L2

/-- what a def comes to: a value, or an exception of the class at c with fields -/
inductive Out where
  | ret (s : S) | exc (c : Addr) (fs : List (Str × D))
def XOk (K : PySem.W.Frag) (G H : Hp) (c : Addr) (fs : List (Str × D)) (cls : Value) (d : Option Addr) : Prop :=
  cls = .ref c ∧ ((fs = [] ∧ d = none) ∨ ∃ dd gs, d = some dd ∧ H dd = some (.xd gs) ∧ RpF K G fs gs)
section
variable (K : PySem.W.Frag)
def EV (te : TE) (δ : List S) (s : S) : Prop := ∀ (He Ge H : Hp) (τo : St) (τs : List S) (σ : St), τo.length = τs.length → OK K He Ge H (τo ++ σ) (τs ++ δ) →
  ∀ Q : VK, (∀ v H', OK K He Ge H' (some v :: (τo ++ σ)) (s :: (τs ++ δ)) → Q v H') → te σ H Q
def EB (tt : TT) (δ : List S) (b : Bool) : Prop := ∀ (He Ge H : Hp) (τo : St) (τs : List S) (σ : St), τo.length = τs.length → OK K He Ge H (τo ++ σ) (τs ++ δ) →
  ∀ Q : Bool → Hp → Prop, (∀ H', OK K He Ge H' (τo ++ σ) (τs ++ δ) → Q b H') → tt σ H Q
def EA (ta : TA) (δ : List S) (xs : List D) : Prop := ∀ (He Ge H : Hp) (τo : St) (τs : List S) (σ : St), τo.length = τs.length → OK K He Ge H (τo ++ σ) (τs ++ δ) →
  ∀ Q : List V → Hp → Prop, (∀ vs H' G', OKG K He Ge H' G' (τo ++ σ) (τs ++ δ) → RpL K G' xs vs → Q vs H') → ta σ H Q
/-- a two-place operation on data -/
def RV2 (r : R2) (x y : D) (s : S) : Prop := ∀ (He Ge H G : Hp) (σ : St) (δ : List S) (v u : V), OKG K He Ge H G σ δ → Rp K G x v → Rp K G y u →
  ∀ Q : VK, (∀ z H', OK K He Ge H' (some z :: σ) (s :: δ) → Q z H') → r v u H Q
def RV1 (r : V → Hp → VK → Prop) (x : D) (s : S) : Prop := ∀ (He Ge H G : Hp) (σ : St) (δ : List S) (v : V), OKG K He Ge H G σ δ → Rp K G x v →
  ∀ Q : VK, (∀ z H', OK K He Ge H' (some z :: σ) (s :: δ) → Q z H') → r v H Q
def RVN (r : List V → Hp → VK → Prop) (xs : List D) (s : S) : Prop := ∀ (He Ge H G : Hp) (σ : St) (δ : List S) (vs : List V), OKG K He Ge H G σ δ → RpL K G xs vs →
  ∀ Q : VK, (∀ z H', OK K He Ge H' (some z :: σ) (s :: δ) → Q z H') → r vs H Q
/-- the iterator hands on the values vs, one by one, wherever G stands -/
def JIs (G : Hp) (J : It) (vs : List V) : Prop := ∀ H, Ex G H → (∀ i, i < vs.length → J.go i H) ∧ (∀ i x H', J.yld i H x H' → H' = H ∧ (i < vs.length → vs[i]? = some x)) ∧ ∀ i, vs.length ≤ i → J.stop i H
def EI (wi : TI) (δ : List S) (xs : List D) : Prop := ∀ (He Ge H : Hp) (τo : St) (τs : List S) (σ : St), τo.length = τs.length → OK K He Ge H (τo ++ σ) (τs ++ δ) →
  ∀ R : It → Hp → Prop, (∀ J H' G' vs, OKG K He Ge H' G' (τo ++ σ) (τs ++ δ) → RpL K G' xs vs → JIs G' J vs → R J H') → wi σ H R
/-- a target that takes x -/
def ET (g : TG) (δ : List S) (x : D) (δ' : List S) : Prop := ∀ (He Ge H G : Hp) (τo : St) (τs : List S) (σ : St) (v : V), τo.length = τs.length → OKG K He Ge H G (τo ++ σ) (τs ++ δ) → Rp K G x v →
  ∀ Q : St → Hp → Prop, (∀ σ', OKG K He Ge H G (τo ++ σ') (τs ++ δ') → Q σ' H) → g v σ H Q
abbrev NoS : List S → Prop := fun _ => False
abbrev NoX : Addr → List (Str × D) → Prop := fun _ _ => False
/-- a statement over the slots δ: N the slots behind it, R what it hands back, B at a break, C at a continue, X what it raises -/
def SD (E : XK) (t : TS) (δ : List S) (N : List S → Prop) (R : S → Prop) (B C : List S → Prop) (X : Addr → List (Str × D) → Prop) : Prop := ∀ (He Ge H : Hp) (σ : St) (Dn : Ends), OK K He Ge H σ δ →
  (∀ δ' σ' H', OK K He Ge H' σ' δ' → N δ' → Dn.nx σ' H') → (∀ v s σ' δ' H', OK K He Ge H' (some v :: σ') (s :: δ') → R s → Dn.rt v H') →
  (∀ δ' σ' H', OK K He Ge H' σ' δ' → B δ' → Dn.bk σ' H') → (∀ δ' σ' H', OK K He Ge H' σ' δ' → C δ' → Dn.ct σ' H') →
  (∀ c fs cls d G' σ' δ' H', OKG K He Ge H' G' σ' δ' → XOk K G' H' c fs cls d → X c fs → E cls d H') → t Dn σ H
/-- a def's promise told over data -/
def spD (R : List D → Out → Prop) : Sp := fun vs H Q E => ∃ G xs out, Ex G H ∧ RpL K G xs vs ∧ R xs out ∧
  (∀ v s G' H', out = .ret s → Ex G G' → Ex G' H' → Ex H H' → (∀ b, H b ≠ none → G b = none → G' b = none) → SlotOk K H G' H' s (some v) → Q v H') ∧
  (∀ c fs cls d G' H', out = .exc c fs → Ex G G' → Ex G' H' → Ex H H' → (∀ b, H b ≠ none → G b = none → G' b = none) → XOk K G' H' c fs cls d → E cls d H')
end

section
variable {K : PySem.W.Frag} {δ : List S} {te ta tb : TE} {x y z : D} {s : S}
theorem len_append {α β : Type} {a : List α} {b : List β} {c : List α} {d : List β} (h : a.length = b.length) (i : Nat) : (b ++ d)[b.length + i]? = d[i]? ∧ (a ++ c)[b.length + i]? = c[i]? := by
  constructor
  · rw [List.getElem?_append_right (Nat.le_add_right _ _), Nat.add_sub_cancel_left]
  · rw [← h, List.getElem?_append_right (Nat.le_add_right _ _), Nat.add_sub_cancel_left]
theorem ev_var {i : Nat} (h : δ[i]? = some (.d x)) : EV K (tVar i) δ (.d x) := by
  intro He Ge H τo τs σ hl ⟨G, ok⟩ Q q
  obtain ⟨e1, e2⟩ := len_append (d := δ) (c := σ) hl i
  obtain ⟨o, eo, v, rfl, r⟩ := ok.sl (τs.length + i) _ (e1.trans h)
  exact ⟨v, e2.symm.trans eo, q v H ⟨G, ok.pushD r⟩⟩
theorem ev_rp {v : V} (r : ∀ G, Rp K G x v) : EV K (tC v) δ (.d x) := by
  intro He Ge H τo τs σ hl ⟨G, ok⟩ Q q
  exact q v H ⟨G, ok.pushD (r G)⟩
theorem ev_int {i : Int} : EV K (tC (.int i)) δ (.d (.int i)) := ev_rp fun _ => .int
theorem ev_bl {b : Bool} : EV K (tC (.bl b)) δ (.d (.bl b)) := ev_rp fun _ => .bl
theorem ev_non : EV K (tC .non) δ (.d .non) := ev_rp fun _ => .non
theorem ev_str {x : Str} : EV K (tC (.str x)) δ (.d (.str x)) := ev_rp fun _ => .str
theorem ev_ty {n : String} : EV K (tC (.ty n)) δ (.d (.ty n)) := ev_rp fun _ => .ty
theorem ev_cls {a : Addr} : EV K (tC (.ref a)) δ (.d (.cls a)) := ev_rp fun _ => .cls
theorem ev_is {s' : S} (h : EV K te δ s) (e : s = s') : EV K te δ s' := e ▸ h
theorem ev_frz {xs : List D} (h : EV K te δ (.own xs)) : EV K te δ (.d (.lst xs)) := by
  intro He Ge H τo τs σ hl ok Q q
  refine h He Ge H τo τs σ hl ok _ fun v H' ⟨G', ok'⟩ => ?_
  obtain ⟨G2, ok2⟩ := ok'.freeze
  exact q v H' ⟨G2, ok2⟩
theorem ev_op {r : R2} (ha : EV K ta δ (.d x)) (hb : EV K tb δ (.d y)) (hr : RV2 K r x y s) : EV K (tOp r ta tb) δ s := by
  intro He Ge H τo τs σ hl ok Q q
  refine ha He Ge H τo τs σ hl ok _ fun v H1 ok1 => ?_
  refine hb He Ge H1 (some v :: τo) (.d x :: τs) σ (by simp [hl]) ok1 _ fun u H2 ok2 => ?_
  obtain ⟨G, ok2⟩ := ok2
  obtain ⟨_, e1, r1⟩ := ok2.top
  obtain ⟨_, e2, r2⟩ := ok2.pop.top
  cases e1; cases e2
  exact hr He Ge H2 G _ _ v u ok2.pop.pop r2 r1 Q q
theorem ev_un {r : V → Hp → VK → Prop} (ha : EV K ta δ (.d x)) (hr : RV1 K r x s) : EV K (tUn r ta) δ s := by
  intro He Ge H τo τs σ hl ok Q q
  refine ha He Ge H τo τs σ hl ok _ fun v H1 ⟨G, ok1⟩ => ?_
  obtain ⟨_, e1, r1⟩ := ok1.top
  cases e1
  exact hr He Ge H1 G _ _ v ok1.pop r1 Q q
theorem ea_nil : EA K tNil δ [] := by
  intro He Ge H τo τs σ hl ⟨G, ok⟩ Q q
  exact q [] H G ok .nil
theorem ea_cons {tr : TA} {xs : List D} (ha : EV K ta δ (.d x)) (hr : EA K tr δ xs) : EA K (tCons ta tr) δ (x :: xs) := by
  intro He Ge H τo τs σ hl ok Q q
  refine ha He Ge H τo τs σ hl ok _ fun v H1 ok1 => ?_
  refine hr He Ge H1 (some v :: τo) (.d x :: τs) σ (by simp [hl]) ok1 _ fun vs H2 G2 ok2 r2 => ?_
  obtain ⟨_, e1, r1⟩ := ok2.top
  cases e1
  exact q (v :: vs) H2 G2 ok2.pop (.cons r1 r2)
theorem ev_cb {r : List V → Hp → VK → Prop} {tr : TA} {xs : List D} (ha : EA K tr δ xs) (hr : RVN K r xs s) : EV K (tCB r tr) δ s := by
  intro He Ge H τo τs σ hl ok Q q
  exact ha He Ge H τo τs σ hl ok _ fun vs H1 G ok1 r1 => hr He Ge H1 G _ _ vs ok1 r1 Q q
/-! tests -/
variable {t u : TT} {a b : Bool}
theorem eb_test (h : EV K te δ (.d (.bl b))) : EB K (tTest te) δ b := by
  intro He Ge H τo τs σ hl ok Q q
  refine h He Ge H τo τs σ hl ok _ fun v H1 ⟨G, ok1⟩ => ?_
  obtain ⟨_, e1, r1⟩ := ok1.top
  cases e1; cases r1
  exact ⟨b, rfl, q H1 ⟨G, ok1.pop⟩⟩
theorem eb_B (h : EV K te δ (.d (.bl b))) : EB K (tB te) δ b := by
  intro He Ge H τo τs σ hl ok Q q
  refine h He Ge H τo τs σ hl ok _ fun v H1 ⟨G, ok1⟩ => ?_
  obtain ⟨_, e1, r1⟩ := ok1.top
  cases e1; cases r1
  exact ⟨b, rfl, q H1 ⟨G, ok1.pop⟩⟩
theorem eb_and (h1 : EB K t δ a) (h2 : a = true → EB K u δ b) : EB K (tAnd t u) δ (a && b) := by
  intro He Ge H τo τs σ hl ok Q q
  refine h1 He Ge H τo τs σ hl ok _ fun H1 ok1 => ?_
  cases a with
  | true => exact iteT (h2 rfl He Ge H1 τo τs σ hl ok1 Q q)
  | false => exact iteF (q H1 ok1)
theorem eb_or (h1 : EB K t δ a) (h2 : a = false → EB K u δ b) : EB K (tOr t u) δ (a || b) := by
  intro He Ge H τo τs σ hl ok Q q
  refine h1 He Ge H τo τs σ hl ok _ fun H1 ok1 => ?_
  cases a with
  | true => exact iteT (q H1 ok1)
  | false => exact iteF (h2 rfl He Ge H1 τo τs σ hl ok1 Q q)
theorem eb_not (h1 : EB K t δ a) : EB K (tNot t) δ (!a) := by
  intro He Ge H τo τs σ hl ok Q q
  exact h1 He Ge H τo τs σ hl ok _ fun H1 ok1 => q H1 ok1
theorem eb_is (h : EB K t δ a) (e : a = b) : EB K t δ b := e ▸ h
/-- a test whose value alone is asked in one way (short) -/
theorem eb_andF (h1 : EB K t δ false) : EB K (tAnd t u) δ false := eb_and (b := false) h1 fun z => nomatch z
theorem eb_orT (h1 : EB K t δ true) : EB K (tOr t u) δ true := eb_or (b := false) h1 fun z => nomatch z
theorem ev_andV (h1 : EV K ta δ (.d (.bl a))) (h2 : a = true → EV K tb δ (.d (.bl b))) : EV K (tAndV ta tb) δ (.d (.bl (a && b))) := by
  intro He Ge H τo τs σ hl ok Q q
  refine h1 He Ge H τo τs σ hl ok _ fun v H1 ⟨G, ok1⟩ => ?_
  obtain ⟨_, e1, r1⟩ := ok1.top
  cases e1; cases r1
  refine ⟨a, rfl, ?_⟩
  cases a with
  | true => exact iteT (h2 rfl He Ge H1 τo τs σ hl ⟨G, ok1.pop⟩ Q q)
  | false => exact iteF (q _ H1 ⟨G, ok1⟩)
theorem ev_orV (h1 : EV K ta δ (.d (.bl a))) (h2 : a = false → EV K tb δ (.d (.bl b))) : EV K (tOrV ta tb) δ (.d (.bl (a || b))) := by
  intro He Ge H τo τs σ hl ok Q q
  refine h1 He Ge H τo τs σ hl ok _ fun v H1 ⟨G, ok1⟩ => ?_
  obtain ⟨_, e1, r1⟩ := ok1.top
  cases e1; cases r1
  refine ⟨a, rfl, ?_⟩
  cases a with
  | true => exact iteT (q _ H1 ⟨G, ok1⟩)
  | false => exact iteF (h2 rfl He Ge H1 τo τs σ hl ⟨G, ok1.pop⟩ Q q)
theorem ev_notV (h1 : EV K ta δ (.d (.bl a))) : EV K (tNotV ta) δ (.d (.bl (!a))) := by
  intro He Ge H τo τs σ hl ok Q q
  refine h1 He Ge H τo τs σ hl ok _ fun v H1 ⟨G, ok1⟩ => ?_
  obtain ⟨_, e1, r1⟩ := ok1.top
  cases e1; cases r1
  exact ⟨a, rfl, q _ H1 ⟨G, ok1.pop.pushD .bl⟩⟩
theorem ev_if {s1 s2 : S} (h : EB K t δ b) (h1 : b = true → EV K ta δ s1) (h2 : b = false → EV K tb δ s2) : EV K (tIf t ta tb) δ (if b = true then s1 else s2) := by
  intro He Ge H τo τs σ hl ok Q q
  refine h He Ge H τo τs σ hl ok _ fun H1 ok1 => ?_
  cases b with
  | true => exact iteT (h1 rfl He Ge H1 τo τs σ hl ok1 Q q)
  | false => exact iteF (h2 rfl He Ge H1 τo τs σ hl ok1 Q q)
/-- .. both ways to one thing -/
theorem ev_if1 (h : EB K t δ b) (h1 : b = true → EV K ta δ s) (h2 : b = false → EV K tb δ s) : EV K (tIf t ta tb) δ s := by
  intro He Ge H τo τs σ hl ok Q q
  refine h He Ge H τo τs σ hl ok _ fun H1 ok1 => ?_
  cases b with
  | true => exact iteT (h1 rfl He Ge H1 τo τs σ hl ok1 Q q)
  | false => exact iteF (h2 rfl He Ge H1 τo τs σ hl ok1 Q q)
/-! displays -/
theorem ev_tup {tr : TA} {xs : List D} (h : EA K tr δ xs) (hz : xs.length ≤ sizeLine) : EV K (tTup tr) δ (.d (.tup xs)) := by
  intro He Ge H τo τs σ hl ok Q q
  refine h He Ge H τo τs σ hl ok _ fun vs H1 G ok1 r1 => ⟨by rw [← r1.length]; exact hz, fun p hp => ?_⟩
  exact q _ _ ⟨_, (ok1.newG hp).pushD (.tup (SqT.of upd_same) (r1.mono (.new (ok1.gh.none hp))))⟩
theorem OKG.newOwn {He Ge H G : Hp} {σ : St} {δ : List S} {p : Addr} {xs : List D} {vs : List V} (ok : OKG K He Ge H G σ δ) (hp : H p = none) (r : RpL K G xs vs) : OKG K He Ge (upd H p (.lst vs)) G (some (.ref p) :: σ) (.own xs :: δ) := by
  refine (ok.newH hp).push ⟨p, vs, rfl, ok.he.none hp, ok.gh.none hp, upd_same, r⟩ fun _ j t p' e hj ho eσ => ?_
  cases e
  obtain ⟨o, eo, k⟩ := ok.sl j t hj
  rw [eo] at eσ
  cases eσ
  cases t with
  | un => cases ho
  | d x => cases ho
  | own ys => obtain ⟨p', vs', e, _, _, h3, _⟩ := k; cases e; rw [hp] at h3; cases h3
  | ob C fs => obtain ⟨a, dx, gs, e, _, _, _, _, h5, _⟩ := k; cases e; rw [hp] at h5; cases h5
theorem ev_lst {tr : TA} {xs : List D} (h : EA K tr δ xs) (hz : xs.length ≤ sizeLine) : EV K (tLst tr) δ (.own xs) := by
  intro He Ge H τo τs σ hl ok Q q
  refine h He Ge H τo τs σ hl ok _ fun vs H1 G ok1 r1 => ⟨by rw [← r1.length]; exact hz, fun p hp => ?_⟩
  exact q _ _ ⟨_, ok1.newOwn hp r1⟩
/-! calls -/
theorem ev_call {R : List D → Out → Prop} {E : XK} {tr : TA} {xs : List D} (h : EA K tr δ xs) (hr : R xs (.ret s)) : EV K (tCall (spD K R) [] E tr) δ s := by
  intro He Ge H τo τs σ hl ok Q q
  refine h He Ge H τo τs σ hl ok _ fun vs H1 G ok1 r1 => ?_
  refine ⟨G, xs, .ret s, ok1.gh, by simpa using r1, hr, fun v s' G' H' e g1 g2 g3 nc k => ?_, fun c fs cls d G' H' e => nomatch e⟩
  cases e
  refine q v H' ⟨G', (ok1.grow g3 g1 g2 nc).push ?_ fun ho j t p e hj hoj eσ => ?_⟩
  · cases s with
    | un => trivial
    | d x => exact k
    | own ys => obtain ⟨p, us, e, h1, h2, h3, r⟩ := k; exact ⟨p, us, e, ok1.he.none h1, h2, h3, r⟩
    | ob C fs => obtain ⟨a, dx, gs, e, h1, h2, h3, h4, h5, h6, r⟩ := k; exact ⟨a, dx, gs, e, ok1.he.none h1, h2, ok1.he.none h3, h4, h5, h6, r⟩
  · cases e
    have hn : H1 p = none := by
      cases s with
      | un => cases ho
      | d x => cases ho
      | own ys => obtain ⟨p', us, e, h1, _⟩ := k; cases e; exact h1
      | ob C fs => obtain ⟨a, dx, gs, e, h1, _⟩ := k; cases e; exact h1
    obtain ⟨o, eo, k2⟩ := ok1.sl j t hj
    rw [eo] at eσ
    cases eσ
    cases t with
    | un => cases hoj
    | d x => cases hoj
    | own ys => obtain ⟨p', vs', e, _, _, h3, _⟩ := k2; cases e; rw [hn] at h3; cases h3
    | ob C fs => obtain ⟨a, dx, gs, e, _, _, _, _, h5, _⟩ := k2; cases e; rw [hn] at h5; cases h5
/-! targets, sources -/
theorem set_off {α : Type} (a b : List α) (i : Nat) (o : α) : (a ++ b).set (a.length + i) o = a ++ b.set i o := by
  rw [List.set_append_right _ _ (Nat.le_add_right _ _), Nat.add_sub_cancel_left]
theorem et_name {i : Nat} (hi : i < δ.length) : ET K (gName i) δ x (δ.set i (.d x)) := by
  intro He Ge H G τo τs σ v hl ok r Q q
  refine q _ ?_
  have k := (ok.pushD r).store (i := τs.length + i) (by rw [List.length_append]; omega)
  rw [set_off τs, ← hl, set_off τo] at k
  exact k
end
end Far
/-! Sources, comprehensions, statements, loops, defs told over data. -/
namespace Far
open PySem L2
section
variable {K : PySem.W.Frag} {δ : List S} {te ta tb : TE} {x y z : D} {s : S} {xs : List D}
/-! ### sources -/
theorem jis_list {G : Hp} {a : Addr} {vs : List V} (h : SqL K G a vs) (inj : ∀ H ys, Ex G H → SqL K H a ys → ys = vs) : JIs G (Itl K a) vs := fun H e =>
  ⟨fun i hi => ⟨vs, vs[i], e.l h, List.getElem?_eq_getElem hi⟩, fun i x H' q => ⟨q.1, fun hi => q.2 vs (e.l h)⟩, fun i hi => ⟨vs, e.l h, hi⟩⟩
theorem ei_list (h : EV K te δ (.d (.lst xs))) : EI K (iList K te) δ xs := by
  intro He Ge H τo τs σ hl ok R q
  refine h He Ge H τo τs σ hl ok _ fun v H1 ⟨G, ok1⟩ => ?_
  obtain ⟨_, e1, r1⟩ := ok1.top
  cases e1
  cases r1 with
  | lst hp r =>
    exact ⟨_, rfl, ⟨_, SqL.of (ok1.gh _ _ hp)⟩, q _ H1 G _ ok1.pop r (fun H e => ⟨fun i hi => ⟨_, _, SqL.of (e _ _ hp), List.getElem?_eq_getElem hi⟩, fun i x H' q => ⟨q.1, fun hi => q.2 _ (SqL.of (e _ _ hp))⟩, fun i hi => ⟨_, SqL.of (e _ _ hp), hi⟩⟩)⟩
theorem ei_tup (h : EV K te δ (.d (.tup xs))) : EI K (iTup K te) δ xs := by
  intro He Ge H τo τs σ hl ok R q
  refine h He Ge H τo τs σ hl ok _ fun v H1 ⟨G, ok1⟩ => ?_
  obtain ⟨_, e1, r1⟩ := ok1.top
  cases e1
  cases r1 with
  | tup hp r =>
    exact ⟨_, rfl, ⟨_, ok1.gh.t hp⟩, q _ H1 G _ ok1.pop r (fun H e => ⟨fun i hi => ⟨_, _, e.t hp, List.getElem?_eq_getElem hi⟩, fun i x H' q => ⟨q.1, fun hi => q.2 _ (e.t hp)⟩, fun i hi => ⟨_, e.t hp, hi⟩⟩)⟩
/-- lo, lo + 1, .. -/
def rg (lo : Int) (n : Nat) : List D := (List.range n).map fun (i : Nat) => D.int (lo + (i : Int))
def rgV (lo : Int) (n : Nat) : List V := (List.range n).map fun (i : Nat) => V.int (lo + (i : Int))
theorem rp_ints {G : Hp} {α : Type} (f : α → Int) : ∀ l : List α, RpL K G (l.map fun i => D.int (f i)) (l.map fun i => V.int (f i))
  | [] => .nil
  | _ :: r => .cons .int (rp_ints f r)
theorem jis_rng {G : Hp} {lo : Int} {n : Nat} : JIs G (Itr lo n) (rgV lo n) := fun H e =>
  ⟨fun i hi => by show i < n; simpa [rgV] using hi, fun i x H' q => ⟨q.1, fun hi => by
    have hi' : i < n := by simpa [rgV] using hi
    rw [q.2]; unfold rgV; rw [List.getElem?_map, List.getElem?_range hi']; rfl⟩, fun i hi => by show n ≤ i; simpa [rgV] using hi⟩
theorem ei_rng1 {n : Int} {tr : TA} (h : EA K tr δ [.int n]) (h1 : -(2 ^ 62) ≤ n) (h2 : n < 2 ^ 62) : EI K (iRng1 tr) δ (rg 0 n.toNat) := by
  intro He Ge H τo τs σ hl ok R q
  refine h He Ge H τo τs σ hl ok _ fun vs H1 G ok1 r1 => ?_
  cases r1 with
  | cons r1 r2 => cases r1; cases r2; exact ⟨n, rfl, h1, h2, q _ H1 G _ ok1 (rp_ints _ _) jis_rng⟩
theorem ei_rng2 {m n : Int} {tr : TA} (h : EA K tr δ [.int m, .int n]) (h1 : -(2 ^ 62) ≤ m ∧ m < 2 ^ 62 ∧ -(2 ^ 62) ≤ n ∧ n < 2 ^ 62) : EI K (iRng2 tr) δ (rg m (n - m).toNat) := by
  intro He Ge H τo τs σ hl ok R q
  refine h He Ge H τo τs σ hl ok _ fun vs H1 G ok1 r1 => ?_
  cases r1 with
  | cons r1 r2 =>
    cases r1
    cases r2 with
    | cons r2 r3 => cases r2; cases r3; exact ⟨m, n, rfl, h1, q _ H1 G _ ok1 (rp_ints _ _) jis_rng⟩
theorem ei_is {wi : TI} {ys : List D} (h : EI K wi δ xs) (e : xs = ys) : EI K wi δ ys := e ▸ h

/-! ### targets -/
end
inductive ETs (K : PySem.W.Frag) : TGs → List S → List D → List S → Prop
  | nil {δ : List S} : ETs K gNil δ [] δ
  | cons {g : TG} {gs : TGs} {δ : List S} {x : D} {xs : List D} {δ1 δ2 : List S} : ET K g δ x δ1 → ETs K gs δ1 xs δ2 → ETs K (gCons g gs) δ (x :: xs) δ2
section
variable {K : PySem.W.Frag} {δ : List S} {te ta tb : TE} {x y z : D} {s : S} {xs : List D}
theorem ets_run {gs : TGs} {δ δ' : List S} {xs : List D} (h : ETs K gs δ xs δ') : ∀ (He Ge H G : Hp) (τo : St) (τs : List S) (σ : St) (vs : List V), τo.length = τs.length → OKG K He Ge H G (τo ++ σ) (τs ++ δ) → RpL K G xs vs →
    ∀ Q : St → Hp → Prop, (∀ σ', OKG K He Ge H G (τo ++ σ') (τs ++ δ') → Q σ' H) → gs vs σ H Q := by
  induction h with
  | nil => intro He Ge H G τo τs σ vs hl ok r Q q; cases r; exact ⟨rfl, q σ ok⟩
  | cons h1 _ ih =>
    intro He Ge H G τo τs σ vs hl ok r Q q
    cases r with
    | cons r1 r2 => exact ⟨_, _, rfl, h1 He Ge H G τo τs σ _ hl ok r1 _ fun σ' ok' => ih He Ge H G τo τs σ' _ hl ok' r2 Q q⟩
theorem et_tup {n : Nat} {gs : TGs} {δ' : List S} (h : ETs K gs δ xs δ') (hn : xs.length = n) : ET K (gTup K n gs) δ (.tup xs) δ' := by
  intro He Ge H G τo τs σ v hl ok r Q q
  cases r with
  | tup hp r => exact ⟨_, _, rfl, ok.gh.t hp, by rw [← r.length]; exact hn, ets_run h He Ge H G τo τs σ _ hl ok r Q q⟩
theorem et_lst {n : Nat} {gs : TGs} {δ' : List S} (h : ETs K gs δ xs δ') (hn : xs.length = n) : ET K (gLst K n gs) δ (.lst xs) δ' := by
  intro He Ge H G τo τs σ v hl ok r Q q
  cases r with
  | lst hp r => exact ⟨_, _, rfl, SqL.of (ok.gh _ _ hp), by rw [← r.length]; exact hn, ets_run h He Ge H G τo τs σ _ hl ok r Q q⟩

/-! ### comprehensions -/
theorem wipe_get {σ : St} : ∀ (vs : List Nat) (j : Nat), (wipe σ vs)[j]? = if j ∈ vs ∧ j < σ.length then some none else σ[j]?
  | [], j => by simp [wipe]
  | v :: vs, j => by
    unfold wipe
    by_cases h : v = j
    · subst h
      by_cases hl : v < σ.length
      · rw [List.getElem?_set_self (by rw [wipe_length]; exact hl)]; simp [hl]
      · rw [List.getElem?_eq_none (by rw [List.length_set, wipe_length]; omega)]
        simp [hl]
    · rw [List.getElem?_set_ne h, wipe_get vs j]
      have : j ∈ v :: vs ↔ j ∈ vs := by simp [Ne.symm h]
      simp only [this]
theorem wipe_set {σ : St} {i : Nat} {o : Option V} {vs : List Nat} (h : i ∈ vs) : wipe (σ.set i o) vs = wipe σ vs := by
  apply List.ext_getElem?
  intro j
  rw [wipe_get, wipe_get, List.length_set]
  by_cases hj : j ∈ vs ∧ j < σ.length
  · rw [if_pos hj, if_pos hj]
  · rw [if_neg hj, if_neg hj]
    by_cases e : i = j
    · subst e
      have hl : ¬ i < σ.length := fun q => hj ⟨h, q⟩
      rw [List.getElem?_eq_none (by rw [List.length_set]; omega), List.getElem?_eq_none (by omega)]
    · rw [List.getElem?_set_ne e]
theorem wipe_wipe {σ : St} {vs : List Nat} : wipe (wipe σ vs) vs = wipe σ vs := by
  apply List.ext_getElem?
  intro j
  rw [wipe_get, wipe_length]
  by_cases hj : j ∈ vs ∧ j < σ.length
  · rw [if_pos hj, wipe_get, if_pos hj]
  · rw [if_neg hj]
/-- a target that stores in vs alone -/
def GOk (g : TG) (vs : List Nat) : Prop := ∀ v σ H Q, g v σ H Q → g v σ H fun σ' H' => wipe σ' vs = wipe σ vs ∧ Q σ' H'
theorem gok_name {i : Nat} {vs : List Nat} (h : i ∈ vs) : GOk (gName i) vs := fun v σ H Q q => ⟨wipe_set h, q⟩
def GsOk (g : TGs) (vs : List Nat) : Prop := ∀ v σ H Q, g v σ H Q → g v σ H fun σ' H' => wipe σ' vs = wipe σ vs ∧ Q σ' H'
theorem gsok_nil {vs : List Nat} : GsOk gNil vs := fun v σ H Q q => ⟨q.1, rfl, q.2⟩
theorem gsok_name {i : Nat} {gs : TGs} {vs : List Nat} (h : i ∈ vs) (h2 : GsOk gs vs) : GsOk (gCons (gName i) gs) vs := fun v σ H Q ⟨a, r, e, q⟩ => ⟨a, r, e, by
  have z := h2 r (σ.set i (some a)) H Q q
  rw [wipe_set h] at z
  exact z⟩
theorem gok_tup {n : Nat} {gs : TGs} {vs : List Nat} (h : GsOk gs vs) : GOk (gTup K n gs) vs := fun v σ H Q ⟨a, xs, e, h1, h2, q⟩ => ⟨a, xs, e, h1, h2, h xs σ H Q q⟩
/-- what a comprehension's block sees of the slots -/
def hideS : S → S
  | .own _ => .un | .ob _ _ => .un | s => s
def hide (δ : List S) (vs : List Nat) : List S := vs.foldr (fun v δ => δ.set v .un) (δ.map hideS)
theorem hide_len (δ : List S) : ∀ vs : List Nat, (hide δ vs).length = δ.length
  | [] => by simp [hide]
  | v :: vs => by show ((hide δ vs).set v .un).length = _; rw [List.length_set, hide_len δ vs]
theorem hide_get (δ : List S) : ∀ (vs : List Nat) (j : Nat) (s : S), (hide δ vs)[j]? = some s → (s = .un ∧ j < δ.length) ∨ (j ∉ vs ∧ owned s = false ∧ δ[j]? = some s)
  | [], j, s, h => by
    simp only [hide, List.foldr_nil, List.getElem?_map, Option.map_eq_some_iff] at h
    obtain ⟨t, e, rfl⟩ := h
    have hl : j < δ.length := (List.getElem?_eq_some_iff.mp e).1
    cases t with
    | un => exact .inl ⟨rfl, hl⟩
    | d x => exact .inr ⟨by simp, rfl, e⟩
    | own xs => exact .inl ⟨rfl, hl⟩
    | ob C fs => exact .inl ⟨rfl, hl⟩
  | v :: vs, j, s, h => by
    have h' : ((hide δ vs).set v .un)[j]? = some s := h
    by_cases e : v = j
    · subst e
      have hl : v < (hide δ vs).length := by
        have := (List.getElem?_eq_some_iff.mp h').1
        rwa [List.length_set] at this
      rw [List.getElem?_set_self hl] at h'
      cases h'
      exact .inl ⟨rfl, by rwa [hide_len] at hl⟩
    · rw [List.getElem?_set_ne e] at h'
      rcases hide_get δ vs j s h' with z | ⟨z1, z2⟩
      · exact .inl z
      · exact .inr ⟨by simp [z1, Ne.symm e], z2⟩
/-- the block's own view stands beside the def's -/
theorem OKG.block {He Ge H G : Hp} {τo : St} {τs : List S} {σ : St} {vs : List Nat} (ok : OKG K He Ge H G (τo ++ σ) (τs ++ δ)) (hl : τo.length = τs.length) : OKG K He Ge H G ((τo ++ σ) ++ wipe σ vs) ((τs ++ (δ ++ List.replicate (σ.length - δ.length) .un)) ++ hide δ vs) := by
  have hd : δ.length ≤ σ.length := by have := ok.len; simp only [List.length_append] at this; omega
  have hL : (τo ++ σ).length = (τs ++ (δ ++ List.replicate (σ.length - δ.length) S.un)).length := by simp only [List.length_append, List.length_replicate]; omega
  have lo : ∀ (i : Nat) (s : S), i < (τo ++ σ).length → ((τs ++ (δ ++ List.replicate (σ.length - δ.length) S.un)) ++ hide δ vs)[i]? = some s → (τs ++ δ)[i]? = some s ∨ s = .un := fun i s hi h => by
    rw [List.getElem?_append_left (by rw [← hL]; exact hi), ← List.append_assoc] at h
    rcases Nat.lt_or_ge i (τs ++ δ).length with q | q
    · rw [List.getElem?_append_left q] at h; exact .inl h
    · rw [List.getElem?_append_right q] at h
      exact .inr (by
        have := List.mem_of_getElem? h
        exact List.eq_of_mem_replicate this)
  have hi : ∀ (i : Nat) (s : S), (τo ++ σ).length ≤ i → ((τs ++ (δ ++ List.replicate (σ.length - δ.length) S.un)) ++ hide δ vs)[i]? = some s → owned s = false ∧ ∃ o, ((τo ++ σ) ++ wipe σ vs)[i]? = some o ∧ SlotOk K He G H s o := fun i s q h => by
    rw [List.getElem?_append_right (by rw [← hL]; exact q), ← hL] at h
    rw [List.getElem?_append_right q]
    rcases hide_get δ vs _ s h with ⟨rfl, z⟩ | ⟨z1, z2, z3⟩
    · refine ⟨rfl, (wipe σ vs)[i - (τo ++ σ).length]'(by rw [wipe_length]; omega), List.getElem?_eq_getElem _, trivial⟩
    · obtain ⟨o, eo, k⟩ := ok.sl (τs.length + (i - (τo ++ σ).length)) s ((len_append (c := σ) (d := δ) hl _).1.trans z3)
      rw [(len_append (c := σ) (d := δ) hl _).2] at eo
      refine ⟨z2, o, ?_, k⟩
      rw [wipe_get, if_neg (fun q => z1 q.1)]; exact eo
  refine ⟨ok.ge, ok.gh, ok.he, ok.nc, fun i s h => ?_, fun i j s t p hij hi' hj o1 o2 e1 e2 => ?_⟩
  · rcases Nat.lt_or_ge i (τo ++ σ).length with q | q
    · rcases lo i s q h with z | rfl
      · obtain ⟨o, eo, k⟩ := ok.sl i s z
        exact ⟨o, by rw [List.getElem?_append_left q]; exact eo, k⟩
      · exact ⟨(τo ++ σ)[i], by rw [List.getElem?_append_left q]; exact List.getElem?_eq_getElem q, trivial⟩
    · exact (hi i s q h).2
  · rcases Nat.lt_or_ge i (τo ++ σ).length with q | q
    · rcases Nat.lt_or_ge j (τo ++ σ).length with q2 | q2
      · rw [List.getElem?_append_left q] at e1
        rw [List.getElem?_append_left q2] at e2
        rcases lo i s q hi' with z | rfl
        · rcases lo j t q2 hj with z2 | rfl
          · exact ok.ne i j s t p hij z z2 o1 o2 e1 e2
          · cases o2
        · cases o1
      · rw [(hi j t q2 hj).1] at o2; cases o2
    · rw [(hi i s q hi').1] at o1; cases o1
/-- back from the block -/
theorem OKG.unblock {He Ge H G : Hp} {α σ2 : St} {τs : List S} {n : Nat} {δ2 : List S} (ok : OKG K He Ge H G (α ++ σ2) ((τs ++ (δ ++ List.replicate n .un)) ++ δ2)) (hl : α.length = (τs ++ (δ ++ List.replicate n S.un)).length) : OKG K He Ge H G α (τs ++ δ) := by
  have lt : ∀ (i : Nat) (s : S), (τs ++ δ)[i]? = some s → i < α.length ∧ ((τs ++ (δ ++ List.replicate n S.un)) ++ δ2)[i]? = some s := fun i s h => by
    have q := (List.getElem?_eq_some_iff.mp h).1
    have q2 : i < (τs ++ (δ ++ List.replicate n S.un)).length := by simp only [List.length_append] at q ⊢; omega
    refine ⟨by rw [hl]; exact q2, ?_⟩
    rw [List.getElem?_append_left q2, ← List.append_assoc, List.getElem?_append_left q]; exact h
  refine ⟨ok.ge, ok.gh, ok.he, ok.nc, fun i s h => ?_, fun i j s t p hij hi hj o1 o2 e1 e2 => ?_⟩
  · obtain ⟨q, h2⟩ := lt i s h
    obtain ⟨o, eo, k⟩ := ok.sl i s h2
    exact ⟨o, by rwa [List.getElem?_append_left q] at eo, k⟩
  · obtain ⟨q1, h1⟩ := lt i s hi
    obtain ⟨q2, h2⟩ := lt j t hj
    exact ok.ne i j s t p hij h1 h2 o1 o2 (by rw [List.getElem?_append_left q1]; exact e1) (by rw [List.getElem?_append_left q2]; exact e2)
/-- the ground moved up: what is data now stays data -/
theorem OKG.ground {He Ge H G : Hp} {σ : St} {δ : List S} (ok : OKG K He Ge H G σ δ) : OKG K He G H G σ δ := ⟨.refl G, ok.gh, ok.he, fun _ _ z => z, ok.sl, ok.ne⟩
theorem OKG.unground {He Ge H H' G G' : Hp} {σ σ' : St} {δ δ' : List S} (ok : OKG K He Ge H G σ δ) (ok' : OKG K He G H' G' σ' δ') : OKG K He Ge H' G' σ' δ' := ⟨ok.ge.trans ok'.ge, ok'.gh, ok'.he, fun b h1 h2 => ok'.nc b h1 (ok.nc b h1 h2), ok'.sl, ok'.ne⟩

theorem ev_lc {α : Type} {ys : List α} {h : α → D} {p : α → Bool} {f : α → D} {wi : TI} {g : TG} {tt : TT} {vs : List Nat} (hi : EI K wi δ (ys.map h)) (hg : GOk g vs) (hz : ys.length ≤ sizeLine)
    (k : ∀ y ∈ ys, ∃ δ2, ET K g (hide δ vs) (h y) δ2 ∧ EB K tt δ2 (p y) ∧ (p y = true → EV K te δ2 (.d (f y)))) : EV K (tLc wi g tt te vs) δ (.own ((ys.filter p).map f)) := by
  intro He Ge H τo τs σ hl ok Q q
  refine hi He Ge H τo τs σ hl ok _ fun J H1 G us ok1 r1 jis => ?_
  intro Dp hD
  have okD := (ok1.newOwn (xs := []) (vs := []) hD .nil).ground
  have lus : us.length = ys.length := by rw [← r1.length, List.length_map]
  -- behind i turns: the list at Dp is what was made of the first i
  refine ⟨fun i m H2 => i + m = us.length ∧ OK K He G H2 (some (.ref Dp) :: (τo ++ σ)) (.own (((ys.take i).filter p).map f) :: (τs ++ δ)), ⟨us.length, by omega, G, okD⟩, fun i m H2 ⟨em, G2, ok2⟩ => ?_⟩
  obtain ⟨j1, j2, j3⟩ := jis H2 (ok2.ge.trans ok2.gh)
  rcases Nat.lt_or_ge i us.length with hlt | hge
  · have hy : i < ys.length := by omega
    have ey : ys[i]? = some ys[i] := List.getElem?_eq_getElem hy
    have ex : (ys.map h)[i]? = some (h ys[i]) := by rw [List.getElem?_map, ey]; rfl
    obtain ⟨v, ev, rv⟩ := r1.get ex
    have tk : ys.take (i + 1) = ys.take i ++ [ys[i]] := by rw [List.take_add_one, ey]; rfl
    refine .inr ⟨j1 i hlt, fun H3 => OK K He G H3 (some (.ref Dp) :: (τo ++ σ)) (.own (((ys.take (i + 1)).filter p).map f) :: (τs ++ δ)), fun H3 k3 => ⟨m - 1, by omega, by omega, k3⟩, fun x H3 hx => ?_⟩
    obtain ⟨e3, e4⟩ := j2 i x H3 hx
    subst e3
    have exv : x = v := Option.some.inj ((e4 hlt).symm.trans ev)
    subst exv
    obtain ⟨δ2, kt, kb, ke⟩ := k ys[i] (List.getElem_mem hy)
    have hd : δ.length ≤ σ.length := by have := ok1.len; simp only [List.length_append] at this; omega
    have hL : ((some (V.ref Dp) :: τo) ++ σ).length = ((S.own (((ys.take i).filter p).map f) :: τs) ++ (δ ++ List.replicate (σ.length - δ.length) S.un)).length := by
      simp only [List.length_append, List.length_cons, List.length_replicate]; omega
    have okB := OKG.block (vs := vs) (τo := some (.ref Dp) :: τo) (τs := .own (((ys.take i).filter p).map f) :: τs) (σ := σ) (δ := δ) ok2 (by simp [hl])
    have z := hg x (wipe σ vs) H3 _ (kt He G H3 G2 _ _ (wipe σ vs) x hL okB (rv.mono ok2.ge) (fun σ2 H4 => tt σ2 H4 fun b H5 => if b = true then te σ2 H5 fun y H6 => ∃ acc, H6 Dp = some (.lst acc) ∧ acc.length < sizeLine ∧ OK K He G (upd H6 Dp (.lst (acc ++ [y]))) (some (.ref Dp) :: (τo ++ σ)) (.own (((ys.take (i + 1)).filter p).map f) :: (τs ++ δ)) else OK K He G H5 (some (.ref Dp) :: (τo ++ σ)) (.own (((ys.take (i + 1)).filter p).map f) :: (τs ++ δ))) fun σ2 ok3 => ?_)
    · rw [wipe_wipe] at z; exact z
    · refine kb He G H3 _ _ σ2 hL ⟨G2, ok3⟩ _ fun H4 ok4 => ?_
      cases hp : p ys[i] with
      | false =>
        refine iteF ?_
        obtain ⟨G4, ok4⟩ := ok4
        have e : ((ys.take (i + 1)).filter p).map f = ((ys.take i).filter p).map f := by rw [tk, List.filter_append]; simp [hp]
        rw [e]
        exact ⟨G4, ok4.unblock hL⟩
      | true =>
        refine iteT (ke hp He G H4 _ _ σ2 hL ok4 _ fun w H5 ⟨G5, ok5⟩ => ?_)
        have ok6 := OKG.unblock (α := some w :: ((some (.ref Dp) :: τo) ++ σ)) (σ2 := σ2) (τs := .d (f ys[i]) :: (S.own (((ys.take i).filter p).map f) :: τs)) (n := σ.length - δ.length) (δ2 := δ2) ok5 (by simp only [List.length_cons]; exact congrArg (· + 1) (by simpa using hL))
        obtain ⟨o, eo, pp, acc, e1, _, _, h3, r3⟩ := ok6.sl 1 _ rfl
        cases eo; cases e1
        obtain ⟨w', e2, rw_⟩ := ok6.top
        cases e2
        have hacc : acc.length ≤ i := by
          rw [← r3.length, List.length_map]
          exact Nat.le_trans (List.length_filter_le _ _) (by rw [List.length_take]; omega)
        refine ⟨acc, h3, by omega, G5, ?_⟩
        have e : ((ys.take (i + 1)).filter p).map f = ((ys.take i).filter p).map f ++ [f ys[i]] := by rw [tk, List.filter_append]; simp [hp]
        rw [e]
        exact (OKG.change (i := 1) ok6 rfl rfl h3 (r3.append (.cons rw_ .nil))).pop
  · refine .inl ⟨j3 i hge, ?_⟩
    have e : ys.take i = ys := List.take_of_length_le (by omega)
    rw [e] at ok2
    exact q _ H2 ⟨G2, ok1.unground ok2⟩
/-! ### statements -/
variable {E : XK} {N B C : List S → Prop} {R : S → Prop} {X : Addr → List (Str × D) → Prop} {t u : TS} {c : TT} {b : Bool}
theorem sd_next (h : N δ) : SD K E tNext δ N R B C X := fun He Ge H σ Dn ok n r bk ct xx => n δ σ H ok h
theorem sd_break (h : B δ) : SD K E tBreak δ N R B C X := fun He Ge H σ Dn ok n r bk ct xx => bk δ σ H ok h
theorem sd_cont (h : C δ) : SD K E tCont δ N R B C X := fun He Ge H σ Dn ok n r bk ct xx => ct δ σ H ok h
theorem sd_seq (h : SD K E t δ (fun δ' => SD K E u δ' N R B C X) R B C X) : SD K E (tSeq t u) δ N R B C X := fun He Ge H σ Dn ok n r bk ct xx =>
  h He Ge H σ { Dn with nx := u Dn } ok (fun δ' σ' H' ok' k => k He Ge H' σ' Dn ok' n r bk ct xx) r bk ct xx
theorem ev0 {te : TE} (h : EV K te δ s) {He Ge H : Hp} {σ : St} (ok : OK K He Ge H σ δ) {Q : VK} (q : ∀ v H', OK K He Ge H' (some v :: σ) (s :: δ) → Q v H') : te σ H Q := h He Ge H [] [] σ rfl ok Q q
theorem eb0 {c : TT} (h : EB K c δ b) {He Ge H : Hp} {σ : St} (ok : OK K He Ge H σ δ) {Q : Bool → Hp → Prop} (q : ∀ H', OK K He Ge H' σ δ → Q b H') : c σ H Q := h He Ge H [] [] σ rfl ok Q q
theorem sd_set {i : Nat} (h : EV K te δ s) (hi : i < δ.length) (n : N (δ.set i s)) : SD K E (tAsg te (gName i)) δ N R B C X := fun He Ge H σ Dn ok nx r bk ct xx =>
  ev0 h ok fun v H' ⟨G', ok'⟩ => nx _ _ _ ⟨G', ok'.store hi⟩ n
theorem sd_asg {g : TG} {δ' : List S} (h : EV K te δ (.d x)) (hg : ET K g δ x δ') (n : N δ') : SD K E (tAsg te g) δ N R B C X := fun He Ge H σ Dn ok nx r bk ct xx =>
  ev0 h ok fun v H' ⟨G', ok'⟩ => by
    obtain ⟨_, e, rv⟩ := ok'.top
    cases e
    exact hg He Ge H' G' [] [] σ v rfl ok'.pop rv Dn.nx fun σ' ok2 => nx _ _ _ ⟨G', ok2⟩ n
theorem sd_if (h : EB K c δ b) (h1 : b = true → SD K E t δ N R B C X) (h2 : b = false → SD K E u δ N R B C X) : SD K E (tIfS c t u) δ N R B C X := fun He Ge H σ Dn ok nx r bk ct xx =>
  eb0 h ok fun H' ok' => by
    cases b with
    | true => exact iteT (h1 rfl He Ge H' σ Dn ok' nx r bk ct xx)
    | false => exact iteF (h2 rfl He Ge H' σ Dn ok' nx r bk ct xx)
theorem sd_ret (h : EV K te δ s) (r : R s) : SD K E (tRet te) δ N R B C X := fun He Ge H σ Dn ok nx rt bk ct xx => ev0 h ok fun v H' ok' => rt v s σ δ H' ok' r
theorem sd_retN (r : R (.d .non)) : SD K E tRetN δ N R B C X := fun He Ge H σ Dn ⟨G, ok⟩ nx rt bk ct xx => rt .non _ σ δ H ⟨G, ok.pushD .non⟩ r
theorem sd_drop (h : EV K te δ s) (n : N δ) : SD K E (tDrop te) δ N R B C X := fun He Ge H σ Dn ok nx r bk ct xx => ev0 h ok fun v H' ⟨G', ok'⟩ => nx _ _ _ ⟨G', ok'.pop⟩ n
theorem sd_never : SD K E tNever δ N R B C X → SD K E tNever δ N R B C X := id
/-- weaker slots first -/
theorem sd_weak {δ' : List S} (w : weak δ δ') (h : SD K E t δ' N R B C X) : SD K E t δ N R B C X := fun He Ge H σ Dn ⟨G, ok⟩ nx r bk ct xx => h He Ge H σ Dn ⟨G, ok.weak w⟩ nx r bk ct xx
theorem sd_mono {N' B' C' : List S → Prop} {R' : S → Prop} {X' : Addr → List (Str × D) → Prop} (h : SD K E t δ N R B C X) (n : ∀ δ, N δ → N' δ) (r : ∀ s, R s → R' s) (b : ∀ δ, B δ → B' δ) (c : ∀ δ, C δ → C' δ) (x : ∀ a fs, X a fs → X' a fs) : SD K E t δ N' R' B' C' X' := fun He Ge H σ Dn ok nx rt bk ct xx =>
  h He Ge H σ Dn ok (fun δ' σ' H' k p => nx δ' σ' H' k (n _ p)) (fun v s σ' δ' H' k p => rt v s σ' δ' H' k (r _ p)) (fun δ' σ' H' k p => bk δ' σ' H' k (b _ p)) (fun δ' σ' H' k p => ct δ' σ' H' k (c _ p))
    (fun c fs cls d G' σ' δ' H' k k2 p => xx c fs cls d G' σ' δ' H' k k2 (x _ _ p))
/-- xs.append(e), xs a list of one's own in slot i -/
theorem sd_append {i : Nat} (hi : δ[i]? = some (.own xs)) (h : EV K te δ (.d x)) (hz : xs.length < sizeLine) (n : N (δ.set i (.own (xs ++ [x])))) : SD K E (tDrop (tBM K "list" rAppend (tVar i) (tCons te tNil))) δ N R B C X := by
  intro He Ge H σ Dn ok nx r bk ct xx
  obtain ⟨G, okk⟩ := id ok
  obtain ⟨o, eo, p, vs, rfl, h1, h2, h3, rv⟩ := okk.sl i _ hi
  refine ⟨_, eo, .inl ⟨rfl, _, SqL.of h3⟩, ?_⟩
  refine ev0 h ok fun v H' ⟨G', ok'⟩ => ?_
  obtain ⟨o2, eo2, p2, vs2, e2, k1, k2, k3, rv2⟩ := ok'.sl (i + 1) (.own xs) (by simpa using hi)
  have e3 : o2 = some (.ref p) := by
    have : σ[i]? = some o2 := by simpa using eo2
    rw [eo] at this
    exact (Option.some.inj this).symm
  subst e3
  cases e2
  obtain ⟨w, e4, rw_⟩ := ok'.top
  cases e4
  refine ⟨p, vs2, v, rfl, rfl, k3, by rw [← rv2.length]; exact hz, ?_⟩
  exact nx _ _ _ ⟨G', OKG.change ok'.pop hi eo k3 (rv2.append (.cons rw_ .nil))⟩ n
theorem sd_for {α : Type} {ys : List α} {h : α → D} {wi : TI} {g : TG} {tb : TS} (hi : EI K wi δ (ys.map h)) (I : Nat → List S) (h0 : weak δ (I 0))
    (k : ∀ i y, ys[i]? = some y → ∃ δ2, ET K g (I i) (h y) δ2 ∧ SD K E tb δ2 (fun δ' => weak δ' (I (i + 1))) R N (fun δ' => weak δ' (I (i + 1))) X) (hd : N (I ys.length)) : SD K E (tFor wi g tb) δ N R B C X := by
  intro He Ge H σ Dn ok nx r bk ct xx
  refine hi He Ge H [] [] σ rfl ok _ fun J H1 G us ok1 r1 jis => ?_
  have lus : us.length = ys.length := by rw [← r1.length, List.length_map]
  refine ⟨fun i m σ2 H2 => i + m = us.length ∧ OK K He G H2 σ2 (I i), ⟨us.length, by omega, G, (OKG.ground ok1).weak h0⟩, fun i m σ2 H2 ⟨em, G2, ok2⟩ => ?_⟩
  obtain ⟨j1, j2, j3⟩ := jis H2 (ok2.ge.trans ok2.gh)
  rcases Nat.lt_or_ge i us.length with hlt | hge
  · have hy : i < ys.length := by omega
    have ey : ys[i]? = some ys[i] := List.getElem?_eq_getElem hy
    have ex : (ys.map h)[i]? = some (h ys[i]) := by rw [List.getElem?_map, ey]; rfl
    obtain ⟨v, ev, rv⟩ := r1.get ex
    refine .inr ⟨j1 i hlt, fun σ3 H3 => OK K He G H3 σ3 (I (i + 1)), fun σ3 H3 k3 => ⟨m - 1, by omega, by omega, k3⟩, fun x H3 hx => ?_⟩
    obtain ⟨e3, e4⟩ := j2 i x H3 hx
    subst e3
    have exv : x = v := Option.some.inj ((e4 hlt).symm.trans ev)
    subst exv
    obtain ⟨δ2, kt, kb⟩ := k i ys[i] ey
    refine kt He G H3 G2 [] [] σ2 x rfl ok2 (rv.mono ok2.ge) _ fun σ3 ok3 => ?_
    refine kb He G H3 σ3 _ ⟨G2, ok3⟩ ?_ ?_ ?_ ?_ ?_
    · exact fun δ' σ' H' ⟨G', k'⟩ w => ⟨G', k'.weak w⟩
    · exact fun v s σ' δ' H' ⟨G', k'⟩ w => r v s σ' δ' H' ⟨G', ok1.unground k'⟩ w
    · exact fun δ' σ' H' ⟨G', k'⟩ w => nx δ' σ' H' ⟨G', ok1.unground k'⟩ w
    · exact fun δ' σ' H' ⟨G', k'⟩ w => ⟨G', k'.weak w⟩
    · exact fun c fs cls d G' σ' δ' H' k' k2 w => xx c fs cls d G' σ' δ' H' (ok1.unground k') k2 w
  · have e : i = ys.length := by omega
    subst e
    exact .inl ⟨j3 _ hge, nx _ _ _ ⟨G2, ok1.unground ok2⟩ hd⟩
theorem sd_while {α : Type} {tb : TS} (I : α → List S) (W : α → Prop) (μ : α → Nat) (a0 : α) (w0 : W a0) (h0 : weak δ (I a0))
    (k : ∀ a, W a → ∃ b, EB K c (I a) b ∧ (b = true → SD K E tb (I a) (fun δ' => ∃ a', W a' ∧ μ a' < μ a ∧ weak δ' (I a')) R N (fun δ' => ∃ a', W a' ∧ μ a' < μ a ∧ weak δ' (I a')) X) ∧ (b = false → N (I a))) : SD K E (tWhile c tb) δ N R B C X := by
  intro He Ge H σ Dn ⟨G, ok⟩ nx r bk ct xx
  refine ⟨fun m σ2 H2 => ∃ a, W a ∧ m = μ a ∧ OK K He Ge H2 σ2 (I a), ⟨μ a0, a0, w0, rfl, G, ok.weak h0⟩, fun m σ2 H2 ⟨a, wa, em, ok2⟩ => ?_⟩
  obtain ⟨b, kb, kt, kf⟩ := k a wa
  refine eb0 kb ok2 fun H3 ok3 => ?_
  cases b with
  | false => exact iteF (nx _ _ _ ok3 (kf rfl))
  | true =>
    refine iteT ⟨fun σ' H' => ∃ a', W a' ∧ μ a' < μ a ∧ OK K He Ge H' σ' (I a'), fun σ' H' ⟨a', w', l, o⟩ => ⟨μ a', by omega, a', w', rfl, o⟩, ?_⟩
    refine kt rfl He Ge H3 σ2 _ ok3 ?_ r nx ?_ xx
    · exact fun δ' σ' H' ⟨G', k'⟩ ⟨a', w', l, w⟩ => ⟨a', w', l, G', k'.weak w⟩
    · exact fun δ' σ' H' ⟨G', k'⟩ ⟨a', w', l, w⟩ => ⟨a', w', l, G', k'.weak w⟩
end
/-! ### a def -/
def Fits (out : Out) (s : S) : Prop := out = .ret s ∨ ∃ xs, s = .own xs ∧ out = .ret (.d (.lst xs))
/-- the whole of a def's body -/
def SDef (K : PySem.W.Frag) (E : XK) (t : TS) (δ : List S) (out : Out) : Prop := SD K E t δ (fun _ => out = .ret (.d .non)) (Fits out) NoS NoS (fun c fs => out = .exc c fs)
def slots (n : Nat) (xs : List D) : List S := xs.map .d ++ List.replicate (n - xs.length) .un
theorem ok_start {K : PySem.W.Frag} {G H : Hp} {N : List Str} {xs : List D} {vs : List V} (e : Ex G H) (r : RpL K G xs vs) : OK K H G H (L2.start N vs) (slots N.length xs) := by
  refine ⟨G, .refl G, e, .refl H, fun _ _ z => z, fun i s h => ?_, fun i j s t p hij hi hj o1 => ?_⟩
  · unfold slots at h
    unfold L2.start
    rcases Nat.lt_or_ge i xs.length with q | q
    · rw [List.getElem?_append_left (by simpa using q), List.getElem?_map] at h
      obtain ⟨x, ex, rfl⟩ := Option.map_eq_some_iff.mp h
      obtain ⟨v, ev, rv⟩ := r.get ex
      refine ⟨some v, ?_, v, rfl, rv⟩
      rw [List.getElem?_append_left (by rw [List.length_map, ← r.length]; exact q), List.getElem?_map, ev]; rfl
    · rw [List.getElem?_append_right (by simpa using q)] at h
      have hs : s = .un := List.eq_of_mem_replicate (List.mem_of_getElem? h)
      have hl := (List.getElem?_eq_some_iff.mp h).1
      rw [List.length_replicate, List.length_map] at hl
      subst hs
      refine ⟨none, ?_, trivial⟩
      rw [List.getElem?_append_right (by rw [List.length_map, ← r.length]; exact q), List.getElem?_replicate, if_pos (by rw [List.length_map, ← r.length]; exact hl)]
  · have : ∀ s ∈ slots N.length xs, owned s = false := fun s hs => by
      rcases List.mem_append.mp hs with z | z
      · obtain ⟨x, _, rfl⟩ := List.mem_map.mp z; rfl
      · rw [List.eq_of_mem_replicate z]; rfl
    rw [this s (List.mem_of_getElem? hi)] at o1; cases o1
theorem body_run {K : PySem.W.Frag} {R : List D → Out → Prop} {N : List Str} {vs : List V} {H : Hp} {Q : VK} {E : XK} {t : TS} (h : spD K R vs H Q E) (k : ∀ xs out, R xs out → SDef K E t (slots N.length xs) out) : t { nx := fun _ H' => Q .non H', rt := Q } (L2.start N vs) H := by
  obtain ⟨G, xs, out, e, r, hr, q1, q2⟩ := h
  refine k xs out hr H G H _ _ (ok_start e r) (fun δ' σ' H' ⟨G', ok⟩ z => ?_) (fun v s σ' δ' H' ⟨G', ok⟩ z => ?_) (fun _ _ _ _ z => z.elim) (fun _ _ _ _ z => z.elim) fun c fs cls d G' σ' δ' H' ok x z => q2 c fs cls d G' H' z ok.ge ok.gh ok.he ok.nc x
  · exact q1 .non _ G' H' z ok.ge ok.gh ok.he ok.nc ⟨.non, rfl, .non⟩
  · rcases z with z | ⟨ys, rfl, z⟩
    · exact q1 v s G' H' z ok.ge ok.gh ok.he ok.nc ok.top
    · obtain ⟨G2, ok2⟩ := ok.freeze
      exact q1 v _ G2 H' z ok2.ge ok2.gh ok2.he ok2.nc ok2.top
section
open PySem.Spec PyProof.Rows
variable {P : Program} {w : World} {K : PySem.W.Frag} {mg : Str → Option Value} {base : Heap}
theorem spD_len {R : List D → Out → Prop} {n : Nat} (h : ∀ xs out, R xs out → xs.length = n) : ∀ vs H Q E, spD K R vs H Q E → vs.length = n := fun vs H Q E ⟨G, xs, out, e, r, hr, _⟩ => by rw [← r.length]; exact h xs out hr
theorem ok_def {x qual : Str} {st : Stmt} {f : Addr} {fd : FuncData} {N ps : List Str} {k : Nat} {R : List D → Out → Prop} {t : TS} (F : Fun K x qual st f fd) (S : FnScope N ps (defScope st)) (hl : ∀ xs out, R xs out → xs.length = ps.length)
    (hd : ∀ (cdv : Value) (A : Around) (outer : List Env) (s : Shared) (H : Hp) (E : XK), Room k (A.deeper (envOfC qual (defScope st) s.heap.objs.size f cdv)) → PSs (cxOf CX0 P w K mg base N qual (defScope st) f cdv A outer s H E).nox (defBody st) t)
    (hs : ∀ E xs out, R xs out → SDef K E t (slots N.length xs) out) : FnOk P w K mg base CX0 (k + 1) f fd ps (spD K R) :=
  F.ok S (spD_len hl) fun cdv A outer s H vs Q E hr h => ⟨t, hd cdv A outer s H E hr, body_run h (hs E)⟩
end
end Far
/-! Operators told over data. -/
namespace Far
open PySem L2
section
variable {K : PySem.W.Frag}
/-! ### scalars out -/
theorem done {He Ge H G : Hp} {σ : St} {δ : List S} {x : D} {v : V} (ok : OKG K He Ge H G σ δ) (r : Rp K G x v) : OK K He Ge H (some v :: σ) (.d x :: δ) := ⟨G, ok.pushD r⟩
theorem doneT {He Ge H G : Hp} {σ : St} {δ : List S} {xs : List D} {vs : List V} {p : Addr} (ok : OKG K He Ge H G σ δ) (hp : H p = none) (r : RpL K G xs vs) : OK K He Ge (upd H p (.tup vs)) (some (.ref p) :: σ) (.d (.tup xs) :: δ) :=
  ⟨_, (ok.newG hp).pushD (.tup (SqT.of upd_same) (r.mono (.new (ok.gh.none hp))))⟩
theorem doneL {He Ge H G : Hp} {σ : St} {δ : List S} {xs : List D} {vs : List V} {p : Addr} (ok : OKG K He Ge H G σ δ) (hp : H p = none) (r : RpL K G xs vs) : OK K He Ge (upd H p (.lst vs)) (some (.ref p) :: σ) (.own xs :: δ) :=
  ⟨G, ok.newOwn hp r⟩
theorem rv_I0 {g : Int → Int → Int} {i j : Int} : RV2 K (rI0 fun i j => .int (g i j)) (.int i) (.int j) (.d (.int (g i j))) := by
  intro He Ge H G σ δ v u ok rv ru Q q
  cases rv; cases ru
  exact ⟨i, j, rfl, rfl, q _ _ (done ok .int)⟩
theorem rv_B0 {g : Int → Int → Bool} {i j : Int} : RV2 K (rI0 fun i j => .bl (g i j)) (.int i) (.int j) (.d (.bl (g i j))) := by
  intro He Ge H G σ δ v u ok rv ru Q q
  cases rv; cases ru
  exact ⟨i, j, rfl, rfl, q _ _ (done ok .bl)⟩
theorem rv_I {C : Int → Int → Prop} {g : Int → Int → Int} {i j : Int} (h : C i j) : RV2 K (rI C fun i j => .int (g i j)) (.int i) (.int j) (.d (.int (g i j))) := by
  intro He Ge H G σ δ v u ok rv ru Q q
  cases rv; cases ru
  exact ⟨i, j, rfl, rfl, h, q _ _ (done ok .int)⟩
theorem rv1_U {g : Int → Int} {i : Int} : RV1 K (rU fun i => .int (g i)) (.int i) (.d (.int (g i))) := by
  intro He Ge H G σ δ v ok rv Q q
  cases rv
  exact ⟨i, rfl, q _ _ (done ok .int)⟩
theorem RV2.inl {r r' : R2} {x y : D} {s : S} (h : RV2 K r x y s) : RV2 K (fun a b H Q => r a b H Q ∨ r' a b H Q) x y s := fun He Ge H G σ δ v u ok rv ru Q q => .inl (h He Ge H G σ δ v u ok rv ru Q q)
theorem RV2.inr {r r' : R2} {x y : D} {s : S} (h : RV2 K r' x y s) : RV2 K (fun a b H Q => r a b H Q ∨ r' a b H Q) x y s := fun He Ge H G σ δ v u ok rv ru Q q => .inr (h He Ge H G σ δ v u ok rv ru Q q)
theorem RVN.inl {r r' : List V → Hp → VK → Prop} {xs : List D} {s : S} (h : RVN K r xs s) : RVN K (fun a H Q => r a H Q ∨ r' a H Q) xs s := fun He Ge H G σ δ v ok rv Q q => .inl (h He Ge H G σ δ v ok rv Q q)
theorem RVN.inr {r r' : List V → Hp → VK → Prop} {xs : List D} {s : S} (h : RVN K r' xs s) : RVN K (fun a H Q => r a H Q ∨ r' a H Q) xs s := fun He Ge H G σ δ v ok rv Q q => .inr (h He Ge H G σ δ v ok rv Q q)
/-! ### + -/
def rAddI : R2 := rI0 fun i j => .int (i + j)
def rAddT : R2 := fun x y H Q => ∃ i j, x = .str i ∧ y = .str j ∧ i.length + j.length ≤ sizeLine ∧ Q (.str (i ++ j)) H
def rAddU (K : PySem.W.Frag) : R2 := fun x y H Q => (rAddI x y H Q ∨ rAddT x y H Q) ∨ (rCat x y H Q ∨ rCatA K x y H Q)
theorem op_addU {X : Cx} : OpR X (binaryOp .Add) (rAddU X.K) := OpR.or (OpR.or op_add op_add_str) (OpR.or op_cat op_catA)
theorem add_int {i j : Int} : RV2 K (rAddU K) (.int i) (.int j) (.d (.int (i + j))) := .inl (.inl rv_I0)
theorem add_str {i j : Str} (h : i.length + j.length ≤ sizeLine) : RV2 K (rAddU K) (.str i) (.str j) (.d (.str (i ++ j))) := .inl (.inr (by
  intro He Ge H G σ δ v u ok rv ru Q q
  cases rv; cases ru
  exact ⟨i, j, rfl, rfl, h, q _ _ (done ok .str)⟩))
theorem add_lst {xs ys : List D} (h : xs.length + ys.length ≤ sizeLine) : RV2 K (rAddU K) (.lst xs) (.lst ys) (.own (xs ++ ys)) := .inr (.inl (by
  intro He Ge H G σ δ v u ok rv ru Q q
  cases rv with
  | lst h1 r1 =>
    cases ru with
    | lst h2 r2 => exact ⟨_, _, _, _, rfl, rfl, ok.gh _ _ h1, ok.gh _ _ h2, by rw [← r1.length, ← r2.length]; exact h, fun p hp => q _ _ (doneL ok hp (r1.append r2))⟩))
theorem add_tup {xs ys : List D} (h : xs.length + ys.length ≤ sizeLine) : RV2 K (rAddU K) (.tup xs) (.tup ys) (.d (.tup (xs ++ ys))) := .inr (.inr (by
  intro He Ge H G σ δ v u ok rv ru Q q
  cases rv with
  | tup h1 r1 =>
    cases ru with
    | tup h2 r2 =>
      refine ⟨_, _, _, _, rfl, rfl, ok.gh.t h1, ok.gh.t h2, by rw [← r1.length, ← r2.length]; exact h, fun e => ?_, fun e1 e2 => ?_, fun e1 e2 p hp => q _ _ (doneT ok hp (r1.append r2))⟩
      · subst e; cases r1; exact q _ _ (done ok (.tup h2 r2))
      · subst e2; cases r2; rw [List.append_nil] at q; exact q _ _ (done ok (.tup h1 r1))))
/-! ### -, *, //, %, ** -/
theorem sub_int {i j : Int} : RV2 K (rI0 fun i j => .int (i - j)) (.int i) (.int j) (.d (.int (i - j))) := rv_I0
def rMulU (K : PySem.W.Frag) : R2 := fun x y H Q => (rI CMul (fun i j => .int (i * j)) x y H Q ∨ rI CMulW (fun i j => .int (i * j)) x y H Q) ∨ (rRep x y H Q ∨ rRepT K x y H Q)
theorem op_mulU {X : Cx} : OpR X (binaryOp .Mult) (rMulU X.K) := OpR.or (OpR.or op_mul op_mulW) (OpR.or op_rep op_repT)
theorem mul_int {i j : Int} (h : CMul i j) : RV2 K (rMulU K) (.int i) (.int j) (.d (.int (i * j))) := .inl (.inl (rv_I h))
theorem mul_wide {i j : Int} (h : CMulW i j) : RV2 K (rMulU K) (.int i) (.int j) (.d (.int (i * j))) := .inl (.inr (rv_I h))
theorem RpL.rep {H : Hp} {xs : List D} {vs : List V} (r : RpL K H xs vs) : ∀ k : Nat, RpL K H (List.replicate k xs).flatten (List.replicate k vs).flatten
  | 0 => .nil
  | k + 1 => by rw [List.replicate_succ, List.replicate_succ, List.flatten_cons, List.flatten_cons]; exact r.append (r.rep k)
theorem mul_lst {xs : List D} {k : Int} (h1 : -(2 ^ 63) ≤ k) (h2 : k < 2 ^ 63) (h3 : xs.length * k.toNat ≤ sizeLine) : RV2 K (rMulU K) (.lst xs) (.int k) (.own (List.replicate k.toNat xs).flatten) := .inr (.inl (by
  intro He Ge H G σ δ v u ok rv ru Q q
  cases ru
  cases rv with
  | lst hl r => exact ⟨_, k, _, rfl, rfl, ok.gh _ _ hl, h1, h2, by rw [← r.length]; exact h3, fun p hp => q _ _ (doneL ok hp (r.rep _))⟩))
theorem fdiv_int {i j : Int} (h : CDivW i j) : RV2 K (rI CDivW fun i j => .int (i / j)) (.int i) (.int j) (.d (.int (i / j))) := rv_I h
theorem mod_int {i j : Int} (h : 0 < j) : RV2 K (rI (fun _ j => 0 < j) fun i j => .int (i % j)) (.int i) (.int j) (.d (.int (i % j))) := rv_I h
theorem pow_int {i j : Int} (h : CPow i j) : RV2 K (rI CPow fun i j => .int (i ^ j.toNat)) (.int i) (.int j) (.d (.int (i ^ j.toNat))) := rv_I h
theorem neg_int {i : Int} : RV1 K (rU fun i => .int (-i)) (.int i) (.d (.int (-i))) := rv1_U
/-! ### comparisons -/
theorem lt_int {i j : Int} : RV2 K (rI0 fun i j => .bl (decide (i < j))) (.int i) (.int j) (.d (.bl (decide (i < j)))) := rv_B0
theorem le_int {i j : Int} : RV2 K (rI0 fun i j => .bl (decide (i ≤ j))) (.int i) (.int j) (.d (.bl (decide (i ≤ j)))) := rv_B0
theorem gt_int {i j : Int} : RV2 K (rI0 fun i j => .bl (decide (j < i))) (.int i) (.int j) (.d (.bl (decide (j < i)))) := rv_B0
theorem ge_int {i j : Int} : RV2 K (rI0 fun i j => .bl (decide (j ≤ i))) (.int i) (.int j) (.d (.bl (decide (j ≤ i)))) := rv_B0
mutual
def pd : D → PyData
  | .non => .none
  | .bl b => .bool b
  | .int i => .int i
  | .str x => .str x
  | .tup xs => .tuple (pdL xs)
  | .lst xs => .list (pdL xs)
  | .scr xs => .list (pdL xs)
  | _ => .none
def pdL : List D → List PyData
  | [] => []
  | x :: xs => pd x :: pdL xs
end
mutual
def pur : D → Bool
  | .non => true
  | .bl _ => true
  | .int _ => true
  | .str x => PyData.strOk x
  | .tup xs => purL xs
  | .lst xs => purL xs
  | .scr xs => purL xs
  | _ => false
def purL : List D → Bool
  | [] => true
  | x :: xs => pur x && purL xs
end
mutual
theorem Rp.dp {G : Hp} : ∀ {d : D} {v : V}, Rp K G d v → pur d = true → Dp K G v (pd d)
  | _, _, .non, _ => by unfold pd; exact .non
  | _, _, .bl, _ => by unfold pd; exact .bl _
  | _, _, .int, _ => by unfold pd; exact .int _
  | _, _, .str, _ => by unfold pd; exact .str _
  | _, _, .ty, h => by simp [pur] at h
  | _, _, .cls, h => by simp [pur] at h
  | _, _, .tup h r, p => by unfold pd; exact .tup h (RpL.dp r (by simpa [pur] using p))
  | _, _, .lst h r, p => by unfold pd; exact .lst (SqL.of h) (RpL.dp r (by simpa [pur] using p))
  | _, _, .scr h r, p => by unfold pd; exact .lst h (RpL.dp r (by simpa [pur] using p))
  | _, _, .ins _ _, h => by simp [pur] at h
  | _, _, .dK _ _, h => by simp [pur] at h
theorem RpL.dp {G : Hp} : ∀ {ds : List D} {vs : List V}, RpL K G ds vs → purL ds = true → DpAll K G vs (pdL ds)
  | _, _, .nil, _ => by unfold pdL; exact .nil
  | _, _, .cons h r, p => by
    unfold purL at p
    rw [Bool.and_eq_true] at p
    unfold pdL
    exact .cons (Rp.dp h p.1) (RpL.dp r p.2)
end
def rEqU (K : PySem.W.Frag) : R2 := fun x y H Q => rEq x y H Q ∨ rEqD K x y H Q
def rNeU (K : PySem.W.Frag) : R2 := fun x y H Q => rNe x y H Q ∨ rNeD K x y H Q
theorem op_eqU {X : Cx} (hu : X.A.units + 64 < cLine) : OpR X (compareOp .Eq) (rEqU X.K) := OpR.or op_eq (op_eqD hu)
theorem op_neU {X : Cx} (hu : X.A.units + 64 < cLine) : OpR X (compareOp .NotEq) (rNeU X.K) := OpR.or op_ne (op_neD hu)
theorem eq_scal {x y : D} {v u : V} {b : Bool} (h1 : ∀ G w, Rp K G x w → w = v) (h2 : ∀ G w, Rp K G y w → w = u) (hs : scal v u = true) (hb : decide (v = u) = b) : RV2 K (rEqU K) x y (.d (.bl b)) := .inl (by
  intro He Ge H G σ δ v' u' ok rv ru Q q
  have e1 := h1 _ _ rv
  have e2 := h2 _ _ ru
  subst e1; subst e2
  exact ⟨hs, by rw [hb]; exact q _ _ (done ok .bl)⟩)
theorem ne_scal {x y : D} {v u : V} {b : Bool} (h1 : ∀ G w, Rp K G x w → w = v) (h2 : ∀ G w, Rp K G y w → w = u) (hs : scal v u = true) (hb : (!decide (v = u)) = b) : RV2 K (rNeU K) x y (.d (.bl b)) := .inl (by
  intro He Ge H G σ δ v' u' ok rv ru Q q
  have e1 := h1 _ _ rv
  have e2 := h2 _ _ ru
  subst e1; subst e2
  exact ⟨hs, by rw [hb]; exact q _ _ (done ok .bl)⟩)
theorem rp_int_eq {i : Int} : ∀ G w, Rp K G (.int i) w → w = .int i := fun _ _ h => by cases h; rfl
theorem rp_str_eq {i : Str} : ∀ G w, Rp K G (.str i) w → w = .str i := fun _ _ h => by cases h; rfl
theorem rp_bl_eq {i : Bool} : ∀ G w, Rp K G (.bl i) w → w = .bl i := fun _ _ h => by cases h; rfl
theorem rp_non_eq : ∀ G w, Rp K G .non w → w = .non := fun _ _ h => by cases h; rfl
theorem dec_i {i j : Int} : decide (V.int i = V.int j) = decide (i = j) := by simp
theorem dec_s {i j : Str} : decide (V.str i = V.str j) = decide (i = j) := by simp
theorem dec_b {i j : Bool} : decide (V.bl i = V.bl j) = decide (i = j) := by simp
theorem eq_int {i j : Int} : RV2 K (rEqU K) (.int i) (.int j) (.d (.bl (decide (i = j)))) := eq_scal rp_int_eq rp_int_eq rfl dec_i
theorem eq_str {i j : Str} : RV2 K (rEqU K) (.str i) (.str j) (.d (.bl (decide (i = j)))) := eq_scal rp_str_eq rp_str_eq rfl dec_s
theorem eq_bl {i j : Bool} : RV2 K (rEqU K) (.bl i) (.bl j) (.d (.bl (decide (i = j)))) := eq_scal rp_bl_eq rp_bl_eq rfl dec_b
theorem eq_int_non {i : Int} : RV2 K (rEqU K) (.int i) .non (.d (.bl false)) := eq_scal rp_int_eq rp_non_eq rfl (by simp)
theorem eq_non_int {i : Int} : RV2 K (rEqU K) .non (.int i) (.d (.bl false)) := eq_scal rp_non_eq rp_int_eq rfl (by simp)
theorem eq_non : RV2 K (rEqU K) .non .non (.d (.bl true)) := by
  refine .inr ?_
  intro He Ge H G σ δ v u ok rv ru Q q
  cases rv; cases ru
  exact ⟨.none, .none, .non, .non, rfl, rfl, q _ _ (done ok .bl)⟩
theorem ne_int {i j : Int} : RV2 K (rNeU K) (.int i) (.int j) (.d (.bl (!decide (i = j)))) := ne_scal rp_int_eq rp_int_eq rfl (by rw [dec_i])
theorem ne_str {i j : Str} : RV2 K (rNeU K) (.str i) (.str j) (.d (.bl (!decide (i = j)))) := ne_scal rp_str_eq rp_str_eq rfl (by rw [dec_s])
theorem ne_bl {i j : Bool} : RV2 K (rNeU K) (.bl i) (.bl j) (.d (.bl (!decide (i = j)))) := ne_scal rp_bl_eq rp_bl_eq rfl (by rw [dec_b])
theorem ne_int_non {i : Int} : RV2 K (rNeU K) (.int i) .non (.d (.bl true)) := ne_scal rp_int_eq rp_non_eq rfl (by simp)
theorem ne_non_int {i : Int} : RV2 K (rNeU K) .non (.int i) (.d (.bl true)) := ne_scal rp_non_eq rp_int_eq rfl (by simp)
theorem ne_non : RV2 K (rNeU K) .non .non (.d (.bl false)) := by
  refine .inr ?_
  intro He Ge H G σ δ v u ok rv ru Q q
  cases rv; cases ru
  exact ⟨.none, .none, .non, .non, rfl, rfl, q _ _ (done ok .bl)⟩
theorem eq_dat {x y : D} (p1 : pur x = true) (p2 : pur y = true) (h1 : SeqAt.shaped (pd x) = true) (h2 : SeqAt.shaped (pd y) = true) : RV2 K (rEqU K) x y (.d (.bl (PyData.eqv (pd x) (pd y)))) := .inr (by
  intro He Ge H G σ δ v u ok rv ru Q q
  exact ⟨_, _, (rv.mono ok.gh).dp p1, (ru.mono ok.gh).dp p2, h1, h2, q _ _ (done ok .bl)⟩)
theorem ne_dat {x y : D} (p1 : pur x = true) (p2 : pur y = true) (h1 : SeqAt.shaped (pd x) = true) (h2 : SeqAt.shaped (pd y) = true) : RV2 K (rNeU K) x y (.d (.bl (!PyData.eqv (pd x) (pd y)))) := .inr (by
  intro He Ge H G σ δ v u ok rv ru Q q
  exact ⟨_, _, (rv.mono ok.gh).dp p1, (ru.mono ok.gh).dp p2, h1, h2, q _ _ (done ok .bl)⟩)
def rIsN : R2 := fun x y H Q => y = .non ∧ Q (.bl (decide (x = .non))) H
def rNotN : R2 := fun x y H Q => y = .non ∧ Q (.bl (!decide (x = .non))) H
theorem op_isN1 {X : Cx} : OpR X (compareOp .Is) rIsN := op_isN
theorem op_notN1 {X : Cx} : OpR X (compareOp .IsNot) rNotN := op_notN
def isNon : D → Bool
  | .non => true | _ => false
theorem Rp.non_iff {G : Hp} {x : D} {v : V} (h : Rp K G x v) : decide (v = .non) = isNon x := by cases h <;> simp [isNon]
theorem is_non {x : D} : RV2 K rIsN x .non (.d (.bl (isNon x))) := by
  intro He Ge H G σ δ v u ok rv ru Q q
  cases ru
  exact ⟨rfl, by rw [rv.non_iff]; exact q _ _ (done ok .bl)⟩
theorem not_non {x : D} : RV2 K rNotN x .non (.d (.bl (!isNon x))) := by
  intro He Ge H G σ δ v u ok rv ru Q q
  cases ru
  exact ⟨rfl, by rw [rv.non_iff]; exact q _ _ (done ok .bl)⟩
def rIsB : R2 := fun x y H Q => ∃ a b, x = .bl a ∧ y = .bl b ∧ Q (.bl (decide (a = b))) H
def rNotB : R2 := fun x y H Q => ∃ a b, x = .bl a ∧ y = .bl b ∧ Q (.bl (!decide (a = b))) H
/-! ### truth -/
def tTru (K : PySem.W.Frag) (ta : TE) : TT := fun σ H Q => ta σ H fun x H' => ∃ k, TruV K x H' k ∧ Q k H'
variable {δ : List S} {te ta tb : TE} {x y : D} {s : S}
/-- a value's truth -/
inductive TrD : D → Bool → Prop
  | non : TrD .non false
  | bl (b : Bool) : TrD (.bl b) b
  | int (i : Int) : TrD (.int i) (i != 0)
  | str (x : Str) (h : x.length ≤ sizeLine) : TrD (.str x) ((x.length : Int) != 0)
  | lst (xs : List D) : TrD (.lst xs) (!xs.isEmpty)
  | tup (xs : List D) : TrD (.tup xs) (!xs.isEmpty)
theorem RpL.isEmpty {G : Hp} {xs : List D} {vs : List V} (r : RpL K G xs vs) : vs.isEmpty = xs.isEmpty := by cases r <;> rfl
theorem TrD.to {b : Bool} (h : TrD x b) {G H : Hp} {v : V} (e : Ex G H) (r : Rp K G x v) : TruV K v H b := by
  cases h with
  | non => cases r; rfl
  | bl => cases r; rfl
  | int => cases r; rfl
  | str _ h => cases r; exact ⟨h, rfl⟩
  | lst xs => cases r with | lst h r => exact .inl ⟨_, SqL.of (e _ _ h), by rw [r.isEmpty]⟩
  | tup xs => cases r with | tup h r => exact .inr (.inl ⟨_, e.t h, by rw [r.isEmpty]⟩)
theorem eb_tru {b : Bool} (h : EV K te δ (.d x)) (t : TrD x b) : EB K (tTru K te) δ b := by
  intro He Ge H τo τs σ hl ok Q q
  refine h He Ge H τo τs σ hl ok _ fun v H1 ⟨G, ok1⟩ => ?_
  obtain ⟨_, e1, r1⟩ := ok1.top
  cases e1
  exact ⟨b, t.to ok1.gh r1, q H1 ⟨G, ok1.pop⟩⟩
theorem ev_orT {b : Bool} {s2 : S} (h : EV K ta δ (.d x)) (t : TrD x b) (h2 : b = false → EV K tb δ s2) : EV K (tOrT K ta tb) δ (if b = true then .d x else s2) := by
  intro He Ge H τo τs σ hl ok Q q
  refine h He Ge H τo τs σ hl ok _ fun v H1 ⟨G, ok1⟩ => ?_
  obtain ⟨_, e1, r1⟩ := ok1.top
  cases e1
  refine ⟨b, t.to ok1.gh r1, ?_⟩
  cases b with
  | true => exact iteT (q v H1 ⟨G, ok1⟩)
  | false => exact iteF (h2 rfl He Ge H1 τo τs σ hl ⟨G, ok1.pop⟩ Q q)
theorem ev_andT {b : Bool} {s2 : S} (h : EV K ta δ (.d x)) (t : TrD x b) (h2 : b = true → EV K tb δ s2) : EV K (tAndT K ta tb) δ (if b = true then s2 else .d x) := by
  intro He Ge H τo τs σ hl ok Q q
  refine h He Ge H τo τs σ hl ok _ fun v H1 ⟨G, ok1⟩ => ?_
  obtain ⟨_, e1, r1⟩ := ok1.top
  cases e1
  refine ⟨b, t.to ok1.gh r1, ?_⟩
  cases b with
  | true => exact iteT (h2 rfl He Ge H1 τo τs σ hl ⟨G, ok1.pop⟩ Q q)
  | false => exact iteF (q v H1 ⟨G, ok1⟩)
theorem ev_orB {a b : Bool} (h : EV K ta δ (.d (.bl a))) (h2 : a = false → EV K tb δ (.d (.bl b))) : EV K (tOrT K ta tb) δ (.d (.bl (a || b))) :=
  ev_is (ev_orT (s2 := .d (.bl b)) h (.bl a) h2) (by cases a <;> rfl)
theorem ev_andB {a b : Bool} (h : EV K ta δ (.d (.bl a))) (h2 : a = true → EV K tb δ (.d (.bl b))) : EV K (tAndT K ta tb) δ (.d (.bl (a && b))) :=
  ev_is (ev_andT (s2 := .d (.bl b)) h (.bl a) h2) (by cases a <;> rfl)
theorem ev_notT {b : Bool} (h : EV K ta δ (.d x)) (t : TrD x b) : EV K (tNotT K ta) δ (.d (.bl (!b))) := by
  intro He Ge H τo τs σ hl ok Q q
  refine h He Ge H τo τs σ hl ok _ fun v H1 ⟨G, ok1⟩ => ?_
  obtain ⟨_, e1, r1⟩ := ok1.top
  cases e1
  exact ⟨b, t.to ok1.gh r1, q _ H1 ⟨G, ok1.pop.pushD .bl⟩⟩
/-! ### items, slices -/
theorem atI_len {α β : Type} {xs : List α} {vs : List β} {i : Int} {v : α} (hl : xs.length = vs.length) (h : atI xs i = some v) : ∃ j : Nat, ixN vs.length i = some j ∧ xs[j]? = some v := by
  unfold atI at h
  rw [hl] at h
  cases e : ixN vs.length i with
  | none => rw [e] at h; cases h
  | some j => rw [e] at h; exact ⟨j, rfl, h⟩
theorem RpL.atI {G : Hp} {xs : List D} {vs : List V} {i : Int} {x : D} (r : RpL K G xs vs) (h : L2.atI xs i = some x) : ∃ v, L2.atI vs i = some v ∧ Rp K G x v := by
  obtain ⟨j, e1, e2⟩ := atI_len r.length h
  obtain ⟨v, e3, rv⟩ := r.get e2
  exact ⟨v, by unfold L2.atI; rw [e1]; exact e3, rv⟩
theorem ix_lst {xs : List D} {i : Int} (h : L2.atI xs i = some x) : RV2 K (rIx K) (.lst xs) (.int i) (.d x) := by
  intro He Ge H G σ δ v u ok rv ru Q q
  cases ru
  cases rv with
  | lst hl r =>
    obtain ⟨w, e, rw_⟩ := r.atI h
    exact .inl ⟨_, _, i, w, rfl, rfl, SqL.of (ok.gh _ _ hl), e, q _ _ (done ok rw_)⟩
theorem ix_scr {xs : List D} {i : Int} (h : L2.atI xs i = some x) : RV2 K (rIx K) (.scr xs) (.int i) (.d x) := by
  intro He Ge H G σ δ v u ok rv ru Q q
  cases ru
  cases rv with
  | scr hl r =>
    obtain ⟨w, e, rw_⟩ := r.atI h
    exact .inl ⟨_, _, i, w, rfl, rfl, ok.gh.l hl, e, q _ _ (done ok rw_)⟩
theorem ix_tup {xs : List D} {i : Int} (h : L2.atI xs i = some x) : RV2 K (rIx K) (.tup xs) (.int i) (.d x) := by
  intro He Ge H G σ δ v u ok rv ru Q q
  cases ru
  cases rv with
  | tup hl r =>
    obtain ⟨w, e, rw_⟩ := r.atI h
    exact .inr (.inl ⟨_, _, i, w, rfl, rfl, ok.gh.t hl, e, q _ _ (done ok rw_)⟩)
theorem ix_str {z : Str} {i : Int} {c : Nat} (hz : z.length ≤ sizeLine) (h : L2.atI z.cps.toList i = some c) : RV2 K (rIx K) (.str z) (.int i) (.d (.str ⟨#[c]⟩)) := by
  intro He Ge H G σ δ v u ok rv ru Q q
  cases ru; cases rv
  exact .inr (.inr ⟨z, i, c, rfl, rfl, hz, h, q _ _ (done ok .str)⟩)
/-- len -/
theorem len_lst {xs : List D} : RVN K (fun vs H Q => ∃ x n, vs = [x] ∧ LenV K x H n ∧ Q (.int n) H) [.lst xs] (.d (.int xs.length)) := by
  intro He Ge H G σ δ vs ok r Q q
  cases r with
  | cons r0 r2 =>
    cases r2
    cases r0 with
    | lst h r => exact ⟨_, xs.length, rfl, .inl ⟨_, SqL.of (ok.gh _ _ h), r.length⟩, q _ _ (done ok .int)⟩
theorem len_scr {xs : List D} : RVN K (fun vs H Q => ∃ x n, vs = [x] ∧ LenV K x H n ∧ Q (.int n) H) [.scr xs] (.d (.int xs.length)) := by
  intro He Ge H G σ δ vs ok r Q q
  cases r with
  | cons r0 r2 =>
    cases r2
    cases r0 with
    | scr h r => exact ⟨_, xs.length, rfl, .inl ⟨_, ok.gh.l h, r.length⟩, q _ _ (done ok .int)⟩
theorem len_tup {xs : List D} : RVN K (fun vs H Q => ∃ x n, vs = [x] ∧ LenV K x H n ∧ Q (.int n) H) [.tup xs] (.d (.int xs.length)) := by
  intro He Ge H G σ δ vs ok r Q q
  cases r with
  | cons r0 r2 =>
    cases r2
    cases r0 with
    | tup h r => exact ⟨_, xs.length, rfl, .inr ⟨_, ok.gh.t h, r.length⟩, q _ _ (done ok .int)⟩
theorem len_str {z : Str} (hz : z.length ≤ sizeLine) : RVN K (fun vs H Q => ∃ x n, vs = [x] ∧ LenV K x H n ∧ Q (.int n) H) [.str z] (.d (.int z.length)) := by
  intro He Ge H G σ δ vs ok r Q q
  cases r with
  | cons r0 r2 => cases r2; cases r0; exact ⟨_, z.length, rfl, ⟨hz, rfl⟩, q _ _ (done ok .int)⟩
theorem min2 {i j : Int} : RVN K (fun xs H Q => ∃ i j, xs = [.int i, .int j] ∧ Q (.int (if j < i then j else i)) H) [.int i, .int j] (.d (.int (min i j))) := by
  intro He Ge H G σ δ vs ok r Q q
  cases r with
  | cons r0 r2 =>
    cases r0
    cases r2 with
    | cons r0 r2 =>
      cases r0; cases r2
      have e : (if j < i then j else i) = min i j := by split <;> omega
      exact ⟨i, j, rfl, by rw [e]; exact q _ _ (done ok .int)⟩
theorem max2 {i j : Int} : RVN K (fun xs H Q => ∃ i j, xs = [.int i, .int j] ∧ Q (.int (if j > i then j else i)) H) [.int i, .int j] (.d (.int (max i j))) := by
  intro He Ge H G σ δ vs ok r Q q
  cases r with
  | cons r0 r2 =>
    cases r0
    cases r2 with
    | cons r0 r2 =>
      cases r0; cases r2
      have e : (if j > i then j else i) = max i j := by split <;> omega
      exact ⟨i, j, rfl, by rw [e]; exact q _ _ (done ok .int)⟩
theorem all_bls {bs : List Bool} : RVN K (rAll K) [.lst (bs.map .bl)] (.d (.bl (bs.all id))) := by
  intro He Ge H G σ δ vs ok r Q q
  cases r with
  | cons r0 r2 =>
    cases r2
    cases r0 with
    | lst h r =>
      have e : ∀ {bs : List Bool} {vs : List V}, RpL K G (bs.map .bl) vs → vs = bs.map V.bl := by
        intro bs
        induction bs with
        | nil => intro vs r; cases r; rfl
        | cons b bs ih => intro vs r; cases r with | cons r0 r => cases r0; rw [ih r]; rfl
      have := e r
      subst this
      exact ⟨_, bs, rfl, SqL.of (ok.gh _ _ h), q _ _ (done ok .bl)⟩
/-! ### isinstance of built-in kinds -/
def tyN : D → String
  | .non => "NoneType" | .bl _ => "bool" | .int _ => "int" | .str _ => "str" | .tup _ => "tuple" | .lst _ => "list" | .scr _ => "list" | .ty _ => "type" | .cls _ => "type" | .ins _ _ => "object" | .dK _ => "dict"
def known : D → Bool
  | .non => true | .bl _ => true | .int _ => true | .str _ => true | .tup _ => true | .lst _ => true | .dK _ => true | _ => false
def isTy (x : D) (n : String) : Bool := (kitB (tyN x) n).getD false
theorem known_ty {G H : Hp} {v : V} (hk : known x = true) (e : Ex G H) (r : Rp K G x v) : TyX K H v (.type (tyN x)) := by
  cases r with
  | non => exact .base .non
  | bl => exact .base (.bl _)
  | int => exact .base (.int _)
  | str => exact .base (.str _)
  | tup h r =>
    rcases h with (h | ⟨o, h⟩) | ⟨o, its, n, h1, h2, _⟩
    · exact .base (.tup (e _ _ h))
    · exact .fTuple (e _ _ h)
    · exact .kTuple h1 h2
  | lst h r => exact .base (.lst (e _ _ h))
  | dK h r => exact .base (.dK (e _ _ h))
  | _ => simp [known] at hk
theorem isi_ty {n : String} (hk : known x = true) (h : (kitB (tyN x) n).isSome = true) : RVN K (rIsi K) [x, .ty n] (.d (.bl (isTy x n))) := by
  intro He Ge H G σ δ vs ok r Q q
  cases r with
  | cons r0 r2 =>
    cases r2 with
    | cons r1 r2 =>
      cases r1; cases r2
      refine ⟨_, _, _, _, isTy x n, rfl, .ty n, known_ty hk ok.gh r0, kit_ty ?_, q _ _ (done ok .bl)⟩
      unfold isTy
      cases e : kitB (tyN x) n with
      | none => rw [e] at h; cases h
      | some b => rfl
end
end Far
/-! More rules: least and greatest with a default, what is walked, slices. -/
namespace Far
open PySem L2 PyProof.Rows
section
variable {X : Cx}
/-! ### either rule -/
theorem PI.or {tg l : Expr} {a b : TI} (h : PI X tg l a) (h' : PI X tg l b) : PI X tg l (fun σ H R => a σ H R ∨ b σ H R) := ⟨fun pins s σ H R I q => q.elim (h.run pins s σ H R I) (h'.run pins s σ H R I)⟩
theorem PG.or {tg : Expr} {a b : TG} (h : PG X tg a) (h' : PG X tg b) : PG X tg (fun v σ H Q => a v σ H Q ∨ b v σ H Q) := ⟨fun pins s σ H v u Q I r q => q.elim (h.run pins s σ H v u Q I r) (h'.run pins s σ H v u Q I r)⟩
/-! ### max(xs, default=d), min .. -/
def rMxD (f : Int → Int → Int) (K : PySem.W.Frag) : List V → List V → Hp → VK → Prop := fun xs zs H Q => ∃ (a : Addr) (ns : List Int) (d : V), xs = [.ref a] ∧ zs = [d] ∧ SqL K H a (ns.map V.int) ∧
  match ns with | [] => Q d H | n :: r => Q (.int (r.foldl f n)) H
theorem reads_ints {h : Heap} : ∀ {us : List Value} {ns : List Int}, IntsAre us ns → ReadsAll h us (ns.map PyData.int) []
  | _, _, .nil => .nil
  | _, _, .cons n t r => by
    have := ReadsAll.cons (Reads.int (h := h) n t) (reads_ints r)
    exact this
theorem alike_ints (ns : List Int) : PySem.W.AlikeAll (ns.map PyData.int) := by
  refine ⟨fun x hx y hy => ?_, fun x hx => ?_⟩
  · obtain ⟨i, _, rfl⟩ := List.mem_map.mp hx
    obtain ⟨j, _, rfl⟩ := List.mem_map.mp hy
    rfl
  · obtain ⟨i, _, rfl⟩ := List.mem_map.mp hx
    exact fun z => nomatch z
theorem depth_ints : ∀ ns : List Int, PyData.depthAll (ns.map PyData.int) = 0
  | [] => rfl
  | n :: r => by rw [List.map_cons]; unfold PyData.depthAll; rw [depth_ints r]; rfl
theorem call_maxD (hc : X.calm = true) (hu : X.A.units + 64 < cLine) : CallRK X (.builtin "max") ["default"] (rMxD max X.K) := by
  intro pins s σ H xs zs us ws Q I r rz q
  obtain ⟨a, ns, d, rfl, rfl, hs, q⟩ := q
  obtain ⟨its, rv, hl, _⟩ := I.list hs
  rw [Vals.ref1 r]
  obtain ⟨u, rfl, ru⟩ := Vals.one rz
  have hi := Vals.ints rv
  refine PySem.W.max_list_default (I.ok.hd hc) hl.isList (xs := ns.map PyData.int) (reads_ints hi) (alike_ints ns) (by rw [depth_ints]; omega) (fun e h' tk hk => ?_) fun y ys i v h' tk bs e hv hr hk => ?_
  · cases ns with
    | nil => exact ⟨d, H, I.kept hk, ru, q⟩
    | cons n r => simp at e
  · cases ns with
    | nil => simp at e
    | cons n r =>
      rw [List.map_cons] at e
      injection e with e1 e2
      subst e1; subst e2
      rw [PySem.W.maxD_ints] at hr
      cases hr
      exact ⟨.int _, H, I.kept hk, ⟨_, rfl⟩, q⟩
theorem call_minD (hc : X.calm = true) (hu : X.A.units + 64 < cLine) : CallRK X (.builtin "min") ["default"] (rMxD min X.K) := by
  intro pins s σ H xs zs us ws Q I r rz q
  obtain ⟨a, ns, d, rfl, rfl, hs, q⟩ := q
  obtain ⟨its, rv, hl, _⟩ := I.list hs
  rw [Vals.ref1 r]
  obtain ⟨u, rfl, ru⟩ := Vals.one rz
  have hi := Vals.ints rv
  refine PySem.W.min_list_default (I.ok.hd hc) hl.isList (xs := ns.map PyData.int) (reads_ints hi) (alike_ints ns) (by rw [depth_ints]; omega) (fun e h' tk hk => ?_) fun y ys i v h' tk bs e hv hr hk => ?_
  · cases ns with
    | nil => exact ⟨d, H, I.kept hk, ru, q⟩
    | cons n r => simp at e
  · cases ns with
    | nil => simp at e
    | cons n r =>
      rw [List.map_cons] at e
      injection e with e1 e2
      subst e1; subst e2
      rw [PySem.W.minD_ints] at hr
      cases hr
      exact ⟨.int _, H, I.kept hk, ⟨_, rfl⟩, q⟩
/-! ### what is walked: a list or a tuple -/
def iSeq (K : PySem.W.Frag) (te : TE) : TI := fun σ H R => iList K te σ H R ∨ iTup K te σ H R
theorem pi_seq {tg l : Expr} {te : TE} (h : PE X l te) : PI X tg l (iSeq X.K te) := PI.or (pi_list h) (pi_tup h)
def gSeq (K : PySem.W.Frag) (n : Nat) (gs : TGs) : TG := fun v σ H Q => gTup K n gs v σ H Q ∨ gLst K n gs v σ H Q
theorem pg_seq {es : List Expr} {k : Nat} {pos : Pos} {t : TGs} {n : Nat} (hc : X.calm = true) (h : PGs X es t) (hn : (assignEach es X.env).length = n := by rfl) (hst : (assignEach es X.env).findIdx? (·.1) = none := by rfl) : PG X (.Tuple es k pos) (gSeq X.K n t) :=
  PG.or (pg_tup hc h hn hst) (pg_lst hc h hn hst)
def iRngU1 (ta : TA) : TI := iRng1 ta
def iRngU2 (ta : TA) : TI := iRng2 ta
theorem pi_rangeU1 {tg a : Expr} {ta : TA} {p pos : Pos} (hg : Gl X "range") (hm : X.mg "range" = none) (ha : PA X [a] ta) (hs : starEach [a] X.env = [(false, eval a X.env)] := by rfl) : PI X tg (.Call (.Name "range" p) [a] [] pos) (iRngU1 ta) := pi_range1 hg hm ha hs
theorem pi_rangeU2 {tg a b : Expr} {ta : TA} {p pos : Pos} (hg : Gl X "range") (hm : X.mg "range" = none) (ha : PA X [a, b] ta) (hs : starEach [a, b] X.env = [(false, eval a X.env), (false, eval b X.env)] := by rfl) (hs2 : starEach [b] X.env = [(false, eval b X.env)] := by rfl) : PI X tg (.Call (.Name "range" p) [a, b] [] pos) (iRngU2 ta) := pi_range2 hg hm ha hs hs2
/-! ### calls of types -/
def rTupU (K : PySem.W.Frag) : List V → Hp → VK → Prop := fun xs H Q => ∃ p ys, xs = [.ref p] ∧ ((SqL K H p ys ∧ ∀ l, H l = none → Q (.ref l) (upd H l (.tup ys))) ∨ (SqT K H p ys ∧ Q (.ref p) H))
theorem call_tupleU : CallR X (.type "tuple") (rTupU X.K) := call_tuple_of
def rLstU (K : PySem.W.Frag) : List V → Hp → VK → Prop := fun xs H Q => ∃ p ys, xs = [.ref p] ∧ (SqL K H p ys ∨ SqT K H p ys) ∧ ∀ l, H l = none → Q (.ref l) (upd H l (.lst ys))
theorem call_listU : CallR X (.type "list") (rLstU X.K) := call_list_of
def rIntU : List V → Hp → VK → Prop := fun xs H Q => ((∃ i, xs = [.int i] ∧ Q (.int i) H) ∨ ∃ k, xs = [.bl k] ∧ Q (.int (if k then 1 else 0)) H) ∨ ∃ a n, xs = [.str a] ∧ PySem.intText? a = some n ∧ a.length ≤ 640 ∧ Q (.int n) H
theorem call_intU : CallR X (.type "int") rIntU := CallR.or call_int1 call_int_str
def rStrU : List V → Hp → VK → Prop := fun xs H Q => (∃ i, xs = [.int i] ∧ i.natAbs.log2 < 1920 ∧ Q (.str (toString i)) H) ∨ ∃ a, xs = [.str a] ∧ Q (.str a) H
theorem call_strU : CallR X (.type "str") rStrU := CallR.or call_str_int SkE.call_str_str
abbrev rLenU (K : PySem.W.Frag) : List V → Hp → VK → Prop := fun xs H Q => ∃ x n, xs = [x] ∧ LenV K x H n ∧ Q (.int n) H
abbrev rMx2 : List V → Hp → VK → Prop := fun xs H Q => ∃ i j, xs = [.int i, .int j] ∧ Q (.int (if j > i then j else i)) H
abbrev rMn2 : List V → Hp → VK → Prop := fun xs H Q => ∃ i j, xs = [.int i, .int j] ∧ Q (.int (if j < i then j else i)) H
/-! ### slices -/
def rSlU (K : PySem.W.Frag) : V → Option Int → Option Int → Hp → VK → Prop := fun x lo hi H Q => rSlL K x lo hi H Q ∨ (rSlA K x lo hi H Q ∨ rSlS x lo hi H Q)
theorem sl_U : SlR X (rSlU X.K) := SlR.or sl_list (SlR.or sl_tupA sl_str)
/-! ### in -/
def rInU (K : PySem.W.Frag) : R2 := fun x y H Q => rIn K false x y H Q ∨ ∃ i j, x = .str i ∧ y = .str j ∧ Q (.bl (!(Builtin.Str.occurrences j i 0 j.length 1).isEmpty)) H
def rNotInU (K : PySem.W.Frag) : R2 := fun x y H Q => rIn K true x y H Q ∨ ∃ i j, x = .str i ∧ y = .str j ∧ Q (.bl (!(!(Builtin.Str.occurrences j i 0 j.length 1).isEmpty))) H
theorem op_inU : OpR X (compareOp .In) (rInU X.K) := OpR.or op_in_seq op_in_str
theorem op_notInU : OpR X (compareOp .NotIn) (rNotInU X.K) := OpR.or op_notIn_seq op_notIn_str
end
section
variable {K : PySem.W.Frag} {δ : List S} {te ta tb : TE} {x y : D} {s : S} {xs ys : List D}
theorem rp_ints_inv {G : Hp} : ∀ {ns : List Int} {vs : List V}, RpL K G (ns.map .int) vs → vs = ns.map V.int
  | [], _, .nil => rfl
  | _ :: _, _, .cons h r => by cases h; rw [rp_ints_inv r]; rfl
def mxD (f : Int → Int → Int) : List Int → D → D
  | [], d => d
  | n :: r, _ => .int (r.foldl f n)
theorem ev_mxD {f : Int → Int → Int} {t tk : TA} {ns : List Int} (h1 : EA K t δ [.lst (ns.map .int)]) (h2 : EA K tk δ [y]) : EV K (tCKw (rMxD f K) t tk) δ (.d (mxD f ns y)) := by
  intro He Ge H τo τs σ hl ok Q q
  refine h1 He Ge H τo τs σ hl ok _ fun vs H1 G1 ok1 r1 => ?_
  cases r1 with
  | cons r1 r2 =>
    cases r2
    refine h2 He Ge H1 (some _ :: τo) (.d (.lst (ns.map .int)) :: τs) σ (by simp [hl]) ⟨G1, ok1.pushD r1⟩ _ fun zs H2 G2 ok2 rz => ?_
    obtain ⟨_, e, rl⟩ := ok2.top
    cases e
    cases rz with
    | cons rd r3 =>
      cases r3
      cases rl with
      | lst hl2 rr =>
        have e2 := rp_ints_inv rr
        subst e2
        refine ⟨_, ns, _, rfl, rfl, SqL.of (ok2.gh _ _ hl2), ?_⟩
        cases ns with
        | nil => exact q _ _ (done ok2.pop rd)
        | cons n r => exact q _ _ (done ok2.pop .int)
theorem ei_seqL (h : EV K te δ (.d (.lst xs))) : EI K (iSeq K te) δ xs := fun He Ge H τo τs σ hl ok R q => .inl (ei_list h He Ge H τo τs σ hl ok R q)
theorem ei_seqT (h : EV K te δ (.d (.tup xs))) : EI K (iSeq K te) δ xs := fun He Ge H τo τs σ hl ok R q => .inr (ei_tup h He Ge H τo τs σ hl ok R q)
theorem ei_rngU1 {n : Int} {tr : TA} (h : EA K tr δ [.int n]) (h1 : -(2 ^ 62) ≤ n) (h2 : n < 2 ^ 62) : EI K (iRngU1 tr) δ (rg 0 n.toNat) := ei_rng1 h h1 h2
theorem ei_rngU2 {m n : Int} {tr : TA} (h : EA K tr δ [.int m, .int n]) (h1 : -(2 ^ 62) ≤ m ∧ m < 2 ^ 62 ∧ -(2 ^ 62) ≤ n ∧ n < 2 ^ 62) : EI K (iRngU2 tr) δ (rg m (n - m).toNat) := ei_rng2 h h1
theorem et_seqT {n : Nat} {gs : TGs} {δ' : List S} (h : ETs K gs δ xs δ') (hn : xs.length = n) : ET K (gSeq K n gs) δ (.tup xs) δ' := fun He Ge H G τo τs σ v hl ok r Q q => .inl (et_tup h hn He Ge H G τo τs σ v hl ok r Q q)
theorem et_seqL {n : Nat} {gs : TGs} {δ' : List S} (h : ETs K gs δ xs δ') (hn : xs.length = n) : ET K (gSeq K n gs) δ (.lst xs) δ' := fun He Ge H G τo τs σ v hl ok r Q q => .inr (et_lst h hn He Ge H G τo τs σ v hl ok r Q q)
theorem gok_seq {n : Nat} {gs : TGs} {vs : List Nat} (h : GsOk gs vs) : GOk (gSeq K n gs) vs := fun v σ H Q q => q.imp (fun ⟨a, xs, e, h1, h2, q⟩ => ⟨a, xs, e, h1, h2, h xs σ H Q q⟩) fun ⟨a, xs, e, h1, h2, q⟩ => ⟨a, xs, e, h1, h2, h xs σ H Q q⟩
theorem ev_dnew : EV K tDNewK δ (.d (.dK [])) := by
  intro He Ge H τo τs σ hl ⟨G, ok⟩ Q q
  intro p hp
  exact q _ _ ⟨_, (ok.newG hp).pushD (.dK upd_same .nil)⟩
theorem tuple_lst : RVN K (rTupU K) [.lst xs] (.d (.tup xs)) := by
  intro He Ge H G σ δ vs ok r Q q
  cases r with
  | cons r0 r2 =>
    cases r2
    cases r0 with
    | lst h r => exact ⟨_, _, rfl, .inl ⟨SqL.of (ok.gh _ _ h), fun l hl => q _ _ (doneT ok hl r)⟩⟩
theorem tuple_tup : RVN K (rTupU K) [.tup xs] (.d (.tup xs)) := by
  intro He Ge H G σ δ vs ok r Q q
  cases r with
  | cons r0 r2 =>
    cases r2
    cases r0 with
    | tup h r => exact ⟨_, _, rfl, .inr ⟨ok.gh.t h, q _ _ (done ok (.tup h r))⟩⟩
theorem list_lst : RVN K (rLstU K) [.lst xs] (.own xs) := by
  intro He Ge H G σ δ vs ok r Q q
  cases r with
  | cons r0 r2 =>
    cases r2
    cases r0 with
    | lst h r => exact ⟨_, _, rfl, .inl (SqL.of (ok.gh _ _ h)), fun l hl => q _ _ (doneL ok hl r)⟩
theorem list_tup : RVN K (rLstU K) [.tup xs] (.own xs) := by
  intro He Ge H G σ δ vs ok r Q q
  cases r with
  | cons r0 r2 =>
    cases r2
    cases r0 with
    | tup h r => exact ⟨_, _, rfl, .inr (ok.gh.t h), fun l hl => q _ _ (doneL ok hl r)⟩
theorem int_int {i : Int} : RVN K rIntU [.int i] (.d (.int i)) := by
  intro He Ge H G σ δ vs ok r Q q
  cases r with
  | cons r0 r2 => cases r0; cases r2; exact .inl (.inl ⟨i, rfl, q _ _ (done ok .int)⟩)
theorem int_bl {b : Bool} : RVN K rIntU [.bl b] (.d (.int (if b then 1 else 0))) := by
  intro He Ge H G σ δ vs ok r Q q
  cases r with
  | cons r0 r2 => cases r0; cases r2; exact .inl (.inr ⟨b, rfl, q _ _ (done ok .int)⟩)
theorem str_int {i : Int} (h : i.natAbs.log2 < 1920) : RVN K rStrU [.int i] (.d (.str (toString i))) := by
  intro He Ge H G σ δ vs ok r Q q
  cases r with
  | cons r0 r2 => cases r0; cases r2; exact .inl ⟨i, rfl, h, q _ _ (done ok .str)⟩
theorem str_str {z : Str} : RVN K rStrU [.str z] (.d (.str z)) := by
  intro He Ge H G σ δ vs ok r Q q
  cases r with
  | cons r0 r2 => cases r0; cases r2; exact .inr ⟨z, rfl, q _ _ (done ok .str)⟩

variable {t : TT} {b : Bool}
theorem ev_ifI {i j : Int} (h : EB K t δ b) (h1 : b = true → EV K ta δ (.d (.int i))) (h2 : b = false → EV K tb δ (.d (.int j))) : EV K (tIf t ta tb) δ (.d (.int (if b = true then i else j))) := ev_is (ev_if h h1 h2) (by cases b <;> rfl)
theorem ev_ifB {i j : Bool} (h : EB K t δ b) (h1 : b = true → EV K ta δ (.d (.bl i))) (h2 : b = false → EV K tb δ (.d (.bl j))) : EV K (tIf t ta tb) δ (.d (.bl (if b = true then i else j))) := ev_is (ev_if h h1 h2) (by cases b <;> rfl)
theorem ev_ifS {i j : Str} (h : EB K t δ b) (h1 : b = true → EV K ta δ (.d (.str i))) (h2 : b = false → EV K tb δ (.d (.str j))) : EV K (tIf t ta tb) δ (.d (.str (if b = true then i else j))) := ev_is (ev_if h h1 h2) (by cases b <;> rfl)
theorem ev_ifD {x y : D} (h : EB K t δ b) (h1 : b = true → EV K ta δ (.d x)) (h2 : b = false → EV K tb δ (.d y)) : EV K (tIf t ta tb) δ (.d (if b = true then x else y)) := ev_is (ev_if h h1 h2) (by cases b <;> rfl)
theorem ev_ifT (h : EB K t δ true) (h1 : EV K ta δ s) : EV K (tIf t ta tb) δ s := ev_if1 h (fun _ => h1) fun z => nomatch z
theorem ev_ifF (h : EB K t δ false) (h1 : EV K tb δ s) : EV K (tIf t ta tb) δ s := ev_if1 h (fun z => nomatch z) fun _ => h1

theorem RpL.cut {G : Hp} {xs : List D} {vs : List V} (r : RpL K G xs vs) (lo hi : Option Int) : RpL K G ((xs.drop (HT.sIx xs.length 0 lo)).take (HT.sIx xs.length xs.length hi - HT.sIx xs.length 0 lo)) (cutV vs lo hi) := by
  unfold cutV
  rw [r.length]
  exact (r.drop _).take _
def cutD (xs : List D) (lo hi : Option Int) : List D := (xs.drop (HT.sIx xs.length 0 lo)).take (HT.sIx xs.length xs.length hi - HT.sIx xs.length 0 lo)
def EO (K : PySem.W.Frag) (to : TO) (δ : List S) (o : Option Int) : Prop := ∀ (He Ge H : Hp) (τo : L2.St) (τs : List S) (σ : L2.St), τo.length = τs.length → OK K He Ge H (τo ++ σ) (τs ++ δ) →
  ∀ Q : Option Int → Hp → Prop, (∀ H', OK K He Ge H' (τo ++ σ) (τs ++ δ) → Q o H') → to σ H Q
theorem eo_none : EO K tNoPart δ none := fun He Ge H τo τs σ hl ok Q q => q H ok
theorem eo_some {i : Int} (h : EV K te δ (.d (.int i))) : EO K (tPart te) δ (some i) := by
  intro He Ge H τo τs σ hl ok Q q
  refine h He Ge H τo τs σ hl ok _ fun v H1 ⟨G, ok1⟩ => ?_
  obtain ⟨_, e, r⟩ := ok1.top
  cases e; cases r
  exact ⟨i, rfl, q H1 ⟨G, ok1.pop⟩⟩
variable {tl th : TO} {lo hi : Option Int}
theorem ev_slG {r : V → Option Int → Option Int → Hp → VK → Prop} (h : EV K te δ (.d x)) (h1 : EO K tl δ lo) (h2 : EO K th δ hi)
    (hr : ∀ (He Ge H G : Hp) (σ : L2.St) (δ : List S) (v : V), OKG K He Ge H G σ δ → Rp K G x v → ∀ Q : VK, (∀ z H', OK K He Ge H' (some z :: σ) (s :: δ) → Q z H') → r v lo hi H Q) : EV K (tSl r te tl th) δ s := by
  intro He Ge H τo τs σ hl ok Q q
  refine h He Ge H τo τs σ hl ok _ fun v H1 ok1 => ?_
  refine h1 He Ge H1 (some v :: τo) (.d x :: τs) σ (by simp [hl]) ok1 _ fun H2 ok2 => ?_
  refine h2 He Ge H2 (some v :: τo) (.d x :: τs) σ (by simp [hl]) ok2 _ fun H3 ⟨G, ok3⟩ => ?_
  obtain ⟨_, e, rr⟩ := ok3.top
  cases e
  exact hr He Ge H3 G _ _ v ok3.pop rr Q q
theorem ev_slL (h : EV K te δ (.d (.lst xs))) (h1 : EO K tl δ lo) (h2 : EO K th δ hi) : EV K (tSl (rSlU K) te tl th) δ (.own (cutD xs lo hi)) := ev_slG h h1 h2 fun He Ge H G σ δ v ok r Q q => by
  cases r with
  | lst hh rr => exact .inl ⟨_, _, rfl, SqL.of (ok.gh _ _ hh), fun p hp => q _ _ (doneL ok hp (rr.cut lo hi))⟩
theorem ev_slT (h : EV K te δ (.d (.tup xs))) (h1 : EO K tl δ lo) (h2 : EO K th δ hi) : EV K (tSl (rSlU K) te tl th) δ (.d (.tup (cutD xs lo hi))) := ev_slG h h1 h2 fun He Ge H G σ δ v ok r Q q => by
  cases r with
  | tup hh rr =>
    refine .inr (.inl ⟨_, _, rfl, ok.gh.t hh, fun ⟨e1, e2⟩ => ?_, fun _ p hp => q _ _ (doneT ok hp (rr.cut lo hi))⟩)
    rw [← rr.length] at e1 e2
    have e : cutD xs lo hi = xs := by unfold cutD; rw [e1, e2, List.drop_zero, Nat.sub_zero, List.take_length]
    rw [e] at q
    exact q _ _ (done ok (.tup hh rr))
theorem ev_slS {z : Str} (h : EV K te δ (.d (.str z))) (h1 : EO K tl δ lo) (h2 : EO K th δ hi) (hz : z.length ≤ sizeLine) : EV K (tSl (rSlU K) te tl th) δ (.d (.str (cutS z lo hi))) := ev_slG h h1 h2 fun He Ge H G σ δ v ok r Q q => by
  cases r
  exact .inr (.inr ⟨z, rfl, hz, q _ _ (done ok .str)⟩)
end
end Far
namespace Far
open PySem L2
/-! which built-in kind a value is of -/
theorem isTy_non_int : isTy .non "int" = false := by show (kitB "NoneType" "int").getD false = false; decide +kernel
theorem isTy_non_bool : isTy .non "bool" = false := by show (kitB "NoneType" "bool").getD false = false; decide +kernel
theorem isTy_non_tuple : isTy .non "tuple" = false := by show (kitB "NoneType" "tuple").getD false = false; decide +kernel
theorem isTy_non_list : isTy .non "list" = false := by show (kitB "NoneType" "list").getD false = false; decide +kernel
theorem isTy_non_str : isTy .non "str" = false := by show (kitB "NoneType" "str").getD false = false; decide +kernel
theorem isTy_bl_int {b : Bool} : isTy (.bl b) "int" = true := by show (kitB "bool" "int").getD false = true; decide +kernel
theorem isTy_bl_bool {b : Bool} : isTy (.bl b) "bool" = true := by show (kitB "bool" "bool").getD false = true; decide +kernel
theorem isTy_bl_tuple {b : Bool} : isTy (.bl b) "tuple" = false := by show (kitB "bool" "tuple").getD false = false; decide +kernel
theorem isTy_bl_list {b : Bool} : isTy (.bl b) "list" = false := by show (kitB "bool" "list").getD false = false; decide +kernel
theorem isTy_bl_str {b : Bool} : isTy (.bl b) "str" = false := by show (kitB "bool" "str").getD false = false; decide +kernel
theorem isTy_int_int {i : Int} : isTy (.int i) "int" = true := by show (kitB "int" "int").getD false = true; decide +kernel
theorem isTy_int_bool {i : Int} : isTy (.int i) "bool" = false := by show (kitB "int" "bool").getD false = false; decide +kernel
theorem isTy_int_tuple {i : Int} : isTy (.int i) "tuple" = false := by show (kitB "int" "tuple").getD false = false; decide +kernel
theorem isTy_int_list {i : Int} : isTy (.int i) "list" = false := by show (kitB "int" "list").getD false = false; decide +kernel
theorem isTy_int_str {i : Int} : isTy (.int i) "str" = false := by show (kitB "int" "str").getD false = false; decide +kernel
theorem isTy_str_int {x : Str} : isTy (.str x) "int" = false := by show (kitB "str" "int").getD false = false; decide +kernel
theorem isTy_str_bool {x : Str} : isTy (.str x) "bool" = false := by show (kitB "str" "bool").getD false = false; decide +kernel
theorem isTy_str_tuple {x : Str} : isTy (.str x) "tuple" = false := by show (kitB "str" "tuple").getD false = false; decide +kernel
theorem isTy_str_list {x : Str} : isTy (.str x) "list" = false := by show (kitB "str" "list").getD false = false; decide +kernel
theorem isTy_str_str {x : Str} : isTy (.str x) "str" = true := by show (kitB "str" "str").getD false = true; decide +kernel
theorem isTy_tup_int {xs : List D} : isTy (.tup xs) "int" = false := by show (kitB "tuple" "int").getD false = false; decide +kernel
theorem isTy_tup_bool {xs : List D} : isTy (.tup xs) "bool" = false := by show (kitB "tuple" "bool").getD false = false; decide +kernel
theorem isTy_tup_tuple {xs : List D} : isTy (.tup xs) "tuple" = true := by show (kitB "tuple" "tuple").getD false = true; decide +kernel
theorem isTy_tup_list {xs : List D} : isTy (.tup xs) "list" = false := by show (kitB "tuple" "list").getD false = false; decide +kernel
theorem isTy_tup_str {xs : List D} : isTy (.tup xs) "str" = false := by show (kitB "tuple" "str").getD false = false; decide +kernel
theorem isTy_lst_int {xs : List D} : isTy (.lst xs) "int" = false := by show (kitB "list" "int").getD false = false; decide +kernel
theorem isTy_lst_bool {xs : List D} : isTy (.lst xs) "bool" = false := by show (kitB "list" "bool").getD false = false; decide +kernel
theorem isTy_lst_tuple {xs : List D} : isTy (.lst xs) "tuple" = false := by show (kitB "list" "tuple").getD false = false; decide +kernel
theorem isTy_lst_list {xs : List D} : isTy (.lst xs) "list" = true := by show (kitB "list" "list").getD false = true; decide +kernel
theorem isTy_lst_str {xs : List D} : isTy (.lst xs) "str" = false := by show (kitB "list" "str").getD false = false; decide +kernel
theorem isTy_dK_int {kvs : List (Key × D)} : isTy (.dK kvs) "int" = false := by show (kitB "dict" "int").getD false = false; decide +kernel
theorem isTy_dK_bool {kvs : List (Key × D)} : isTy (.dK kvs) "bool" = false := by show (kitB "dict" "bool").getD false = false; decide +kernel
theorem isTy_dK_tuple {kvs : List (Key × D)} : isTy (.dK kvs) "tuple" = false := by show (kitB "dict" "tuple").getD false = false; decide +kernel
theorem isTy_dK_list {kvs : List (Key × D)} : isTy (.dK kvs) "list" = false := by show (kitB "dict" "list").getD false = false; decide +kernel
theorem isTy_dK_str {kvs : List (Key × D)} : isTy (.dK kvs) "str" = false := by show (kitB "dict" "str").getD false = false; decide +kernel
theorem tyN_mem {x : D} (h : known x = true) : tyN x ∈ ["NoneType", "bool", "int", "str", "tuple", "list", "dict"] := by
  cases x <;> first | (simp [known] at h; done) | (simp [tyN])
theorem kit_all : ∀ t ∈ ["NoneType", "bool", "int", "str", "tuple", "list", "dict"], ∀ n ∈ ["int", "bool", "tuple", "list", "str"], (kitB t n).isSome = true := by decide +kernel
theorem kit_any {x : D} {n : String} (h : known x = true) (hn : n ∈ ["int", "bool", "tuple", "list", "str"]) : (kitB (tyN x) n).isSome = true := kit_all _ (tyN_mem h) _ hn
theorem isTy_tuple {x : D} (h : isTy x "tuple" = true) (hk : known x = true) : ∃ xs, x = .tup xs := by
  cases x <;> first | (simp [known] at hk; done) | exact ⟨_, rfl⟩ | (first | rw [isTy_non_tuple] at h | rw [isTy_bl_tuple] at h | rw [isTy_int_tuple] at h | rw [isTy_str_tuple] at h | rw [isTy_lst_tuple] at h | rw [isTy_dK_tuple] at h); cases h
theorem cdiv_small {i j : Int} (h : 0 < j) (h2 : j < 1073741824) : CDivW i j := wide_div (b := 30) h (by rw [show (2:Nat)^30 = 1073741824 from by decide]; omega) (by decide) (by decide)
theorem sd_setD {K : PySem.W.Frag} {δ : List S} {te : TE} {x : D} {E : XK} {N B C : List S → Prop} {R : S → Prop} {X : Addr → List (Str × D) → Prop} {i : Nat} (h : EV K te δ (.d x)) (hi : i < δ.length) (n : N (δ.set i (.d x))) : SD K E (tAsg te (gName i)) δ N R B C X := sd_set h hi n
theorem known_get {xs : List D} {x : D} (h : xs.all known = true) (hx : x ∈ xs) : known x = true := List.all_eq_true.mp h x hx
theorem all_id {α : Type} (f : α → Bool) (l : List α) : (l.map f).all id = l.all f := by simp
section
variable {K : PySem.W.Frag} {δ : List S} {te : TE} {wi : TI} {g : TG} {tt : TT} {vs : List Nat}
theorem eb_yes : EB K tYes δ true := fun He Ge H τo τs σ hl ok Q q => q H ok
/-- [e for .. in ..], no test; the items told as h of something -/
theorem ev_lc1 {α : Type} {ys : List α} {h f : α → D} (hi : EI K wi δ (ys.map h)) (hg : GOk g vs) (hz : ys.length ≤ sizeLine) (k : ∀ y ∈ ys, ∃ δ2, ET K g (hide δ vs) (h y) δ2 ∧ EV K te δ2 (.d (f y))) : EV K (tLc wi g tYes te vs) δ (.own (ys.map f)) := by
  have z := ev_lc (p := fun _ => true) hi hg hz (fun y hy => by
    obtain ⟨δ2, k1, k2⟩ := k y hy
    exact ⟨δ2, k1, eb_yes, fun _ => k2⟩)
  rwa [List.filter_eq_self.mpr (fun _ _ => rfl)] at z
theorem ev_lcD {ys : List D} {f : D → D} (hi : EI K wi δ ys) (hg : GOk g vs) (hz : ys.length ≤ sizeLine) (k : ∀ y ∈ ys, ∃ δ2, ET K g (hide δ vs) y δ2 ∧ EV K te δ2 (.d (f y))) : EV K (tLc wi g tYes te vs) δ (.own (ys.map f)) :=
  ev_lc1 (h := id) (ei_is hi (List.map_id _).symm) hg hz k
theorem ev_lcF {ys : List D} {p : D → Bool} {f : D → D} (hi : EI K wi δ ys) (hg : GOk g vs) (hz : ys.length ≤ sizeLine) (k : ∀ y ∈ ys, ∃ δ2, ET K g (hide δ vs) y δ2 ∧ EB K tt δ2 (p y) ∧ (p y = true → EV K te δ2 (.d (f y)))) : EV K (tLc wi g tt te vs) δ (.own ((ys.filter p).map f)) :=
  ev_lc (h := id) (ei_is hi (List.map_id _).symm) hg hz k
theorem ev_all {α : Type} {ys : List α} {h : α → D} {b : α → Bool} (hi : EI K wi δ (ys.map h)) (hg : GOk g vs) (hz : ys.length ≤ sizeLine) (k : ∀ y ∈ ys, ∃ δ2, ET K g (hide δ vs) (h y) δ2 ∧ EV K te δ2 (.d (.bl (b y)))) : EV K (tCB (rAll K) (tCons (tLc wi g tYes te vs) tNil)) δ (.d (.bl (ys.all b))) := by
  have e : (ys.map fun y => D.bl (b y)) = (ys.map b).map D.bl := by rw [List.map_map]; rfl
  have z := ev_frz (ev_lc1 hi hg hz k)
  rw [e] at z
  have := ev_cb (ea_cons z ea_nil) all_bls
  rwa [all_id] at this
theorem ev_allD {ys : List D} {b : D → Bool} (hi : EI K wi δ ys) (hg : GOk g vs) (hz : ys.length ≤ sizeLine) (k : ∀ y ∈ ys, ∃ δ2, ET K g (hide δ vs) y δ2 ∧ EV K te δ2 (.d (.bl (b y)))) : EV K (tCB (rAll K) (tCons (tLc wi g tYes te vs) tNil)) δ (.d (.bl (ys.all b))) :=
  ev_all (h := id) (ei_is hi (List.map_id _).symm) hg hz k
/-- short ways, where the left side is known -/
theorem ev_orB1 {ta tb : TE} {a : Bool} (h : EV K ta δ (.d (.bl a))) (e : a = true) : EV K (tOrT K ta tb) δ (.d (.bl true)) := by
  subst e; exact ev_is (ev_orB (b := false) h fun z => nomatch z) rfl
theorem ev_orB0 {ta tb : TE} {a : Bool} {s : S} (h : EV K ta δ (.d (.bl a))) (e : a = false) (h2 : EV K tb δ s) : EV K (tOrT K ta tb) δ s := by
  subst e; exact ev_is (ev_orT h (.bl _) fun _ => h2) rfl
theorem ev_andB1 {ta tb : TE} {a : Bool} (h : EV K ta δ (.d (.bl a))) (e : a = false) : EV K (tAndT K ta tb) δ (.d (.bl false)) := by
  subst e; exact ev_is (ev_andB (b := false) h fun z => nomatch z) rfl
theorem ev_andB0 {ta tb : TE} {a : Bool} {s : S} (h : EV K ta δ (.d (.bl a))) (e : a = true) (h2 : EV K tb δ s) : EV K (tAndT K ta tb) δ s := by
  subst e; exact ev_is (ev_andT h (.bl _) fun _ => h2) rfl
theorem eb_or1 {t u : TT} {a : Bool} (h : EB K t δ a) (e : a = true) : EB K (tOr t u) δ true := by subst e; exact eb_orT h
theorem eb_or0 {t u : TT} {a b : Bool} (h : EB K t δ a) (e : a = false) (h2 : EB K u δ b) : EB K (tOr t u) δ b := by subst e; exact eb_is (eb_or h fun _ => h2) rfl
theorem eb_and1 {t u : TT} {a : Bool} (h : EB K t δ a) (e : a = false) : EB K (tAnd t u) δ false := by subst e; exact eb_andF h
theorem eb_and0 {t u : TT} {a b : Bool} (h : EB K t δ a) (e : a = true) (h2 : EB K u δ b) : EB K (tAnd t u) δ b := by subst e; exact eb_is (eb_and h fun _ => h2) rfl
theorem ev_if1' {t : TT} {ta tb : TE} {a : Bool} {s : S} (h : EB K t δ a) (e : a = true) (h1 : EV K ta δ s) : EV K (tIf t ta tb) δ s := by subst e; exact ev_ifT h h1
theorem ev_if0' {t : TT} {ta tb : TE} {a : Bool} {s : S} (h : EB K t δ a) (e : a = false) (h1 : EV K tb δ s) : EV K (tIf t ta tb) δ s := by subst e; exact ev_ifF h h1
theorem sd_if1 {E : XK} {N B C : List S → Prop} {R : S → Prop} {X : Addr → List (Str × D) → Prop} {t u : TS} {c : TT} {a : Bool} (h : EB K c δ a) (e : a = true) (h1 : SD K E t δ N R B C X) : SD K E (tIfS c t u) δ N R B C X := by subst e; exact sd_if h (fun _ => h1) fun z => nomatch z
theorem sd_if0 {E : XK} {N B C : List S → Prop} {R : S → Prop} {X : Addr → List (Str × D) → Prop} {t u : TS} {c : TT} {a : Bool} (h : EB K c δ a) (e : a = false) (h1 : SD K E u δ N R B C X) : SD K E (tIfS c t u) δ N R B C X := by subst e; exact sd_if h (fun z => nomatch z) fun _ => h1
theorem sz {n : Nat} (h : n ≤ 16777216) : n ≤ sizeLine := by rw [sizeLine_eq]; exact h
/-- an item at a place that is not written -/
theorem atI_getD {α : Type} {xs : List α} {i : Int} {d : α} (h0 : 0 ≤ i) (h1 : i < xs.length) : L2.atI xs i = some (xs.getD i.toNat d) := by
  have h2 : i.toNat < xs.length := by omega
  have e : i = ((i.toNat : Nat) : Int) := by omega
  rw [e]
  refine L2.atI_nat ?_
  rw [Int.toNat_natCast, List.getElem?_eq_getElem h2, List.getD_eq_getElem?_getD, List.getElem?_eq_getElem h2]; rfl
/-- .. of a list of ints -/
theorem atI_ints {xs : List Int} {i : Int} (h0 : 0 ≤ i) (h1 : i < xs.length) : L2.atI (xs.map D.int) i = some (.int (xs.getD i.toNat 0)) := by
  rw [atI_getD (d := D.int 0) h0 (by rw [List.length_map]; exact h1)]
  congr 1
  rw [List.getD_eq_getElem?_getD, List.getElem?_map, List.getD_eq_getElem?_getD]
  cases xs[i.toNat]? <;> rfl
mutual
theorem pur_lay : ∀ {x : D}, pur x = true → (pd x).canLay0 = true
  | .non, _ => by simp [pd, PyData.canLay0]
  | .bl _, _ => by simp [pd, PyData.canLay0]
  | .int _, _ => by simp [pd, PyData.canLay0]
  | .str _, h => by simpa [pd, PyData.canLay0, pur] using h
  | .tup xs, h => by simp only [pd, PyData.canLay0]; exact purL_lay (by simpa [pur] using h)
  | .lst xs, h => by simp only [pd, PyData.canLay0]; exact purL_lay (by simpa [pur] using h)
  | .scr xs, h => by simp only [pd, PyData.canLay0]; exact purL_lay (by simpa [pur] using h)
  | .ty _, h => by simp [pur] at h
  | .cls _, h => by simp [pur] at h
  | .ins _ _, h => by simp [pur] at h
  | .dK _, h => by simp [pur] at h
theorem purL_lay : ∀ {xs : List D}, purL xs = true → PyData.canLayAll0 (pdL xs) = true
  | [], _ => by simp [pdL, PyData.canLayAll0]
  | x :: xs, h => by
    simp only [purL, Bool.and_eq_true] at h
    simp only [pdL, PyData.canLayAll0, Bool.and_eq_true]
    exact ⟨pur_lay h.1, purL_lay h.2⟩
end
theorem shaped_of {x : D} (h : pur x = true) (hd : (pd x).depth ≤ 64) : SeqAt.shaped (pd x) = true := by
  unfold SeqAt.shaped; rw [pur_lay h]; simpa using hd
def eqD (x y : D) : Bool := PyData.eqv (pd x) (pd y)
theorem eq_D {x y : D} (p1 : pur x = true) (p2 : pur y = true) (h1 : (pd x).depth ≤ 64) (h2 : (pd y).depth ≤ 64) : RV2 K (rEqU K) x y (.d (.bl (eqD x y))) := eq_dat p1 p2 (shaped_of p1 h1) (shaped_of p2 h2)
theorem ne_D {x y : D} (p1 : pur x = true) (p2 : pur y = true) (h1 : (pd x).depth ≤ 64) (h2 : (pd y).depth ≤ 64) : RV2 K (rNeU K) x y (.d (.bl (!eqD x y))) := ne_dat p1 p2 (shaped_of p1 h1) (shaped_of p2 h2)
theorem pur_ints : ∀ ns : List Int, purL (ns.map D.int) = true
  | [] => rfl
  | n :: r => by simp [purL, pur, pur_ints r]
theorem depth_intsD : ∀ ns : List Int, PyData.depthAll (pdL (ns.map D.int)) = 0
  | [] => by simp [pdL, PyData.depthAll]
  | n :: r => by simp [pdL, pd, PyData.depthAll, PyData.depth, depth_intsD r]
theorem eqv_nil (xs : List D) : PyData.eqvAll (pdL xs) [] = xs.isEmpty := by cases xs <;> simp [pdL, PyData.eqvAll]
theorem ne_scr_nil {ns : List Int} : RV2 K (rNeU K) (.scr (ns.map .int)) (.lst []) (.d (.bl (!ns.isEmpty))) := by
  have z := ne_D (K := K) (x := .scr (ns.map .int)) (y := .lst []) (by simp [pur, pur_ints]) rfl (by simp [pd, PyData.depth, depth_intsD]) (by simp [pd, pdL, PyData.depth, PyData.depthAll])
  have e : eqD (.scr (ns.map .int)) (.lst []) = ns.isEmpty := by
    simp only [eqD, pd, pdL, PyData.eqv]
    rw [eqv_nil]; cases ns <;> rfl
  rwa [e] at z
theorem weak_refl {δ : List S} : weak δ δ := fun i s h => .inl h
theorem weak_of {δ δ' : List S} (h : δ = δ') : weak δ δ' := h ▸ weak_refl
/-- slot by slot -/
inductive WK : List S → List S → Prop
  | nil : WK [] []
  | same {s : S} {r t : List S} : WK r t → WK (s :: r) (s :: t)
  | un {s : S} {r t : List S} : WK r t → WK (s :: r) (.un :: t)
theorem weak_cons {s t : S} {a b : List S} (h : s = t ∨ t = .un) (r : weak a b) : weak (s :: a) (t :: b) := fun i u e => by
  cases i with
  | zero =>
    simp at e
    rcases h with rfl | rfl
    · exact .inl (by simp [e])
    · exact .inr ⟨e.symm, s, rfl⟩
  | succ i =>
    simp at e
    rcases r i u e with q | ⟨q1, t, q2⟩
    · exact .inl (by simpa using q)
    · exact .inr ⟨q1, t, by simpa using q2⟩
theorem WK.weak : ∀ {a b : List S}, WK a b → Far.weak a b
  | _, _, .nil => weak_refl
  | _, _, .same r => weak_cons (.inl rfl) (WK.weak r)
  | _, _, .un r => weak_cons (.inr rfl) (WK.weak r)
variable {E : XK} {N B C : List S → Prop} {R : S → Prop} {X : Addr → List (Str × D) → Prop} {tb : TS}
theorem rg0 (n : Nat) : rg 0 n = (List.range n).map fun (i : Nat) => D.int (i : Int) := by
  unfold rg; congr 1; funext i; rw [Int.zero_add]
theorem range_get {n i y : Nat} (h : (List.range n)[i]? = some y) : i < n ∧ y = i := by
  obtain ⟨q, e⟩ := List.getElem?_eq_some_iff.mp h
  simp at q e; exact ⟨q, e.symm⟩
/-- for k in range(n) -/
theorem sd_rng1 {n : Int} {tr : TA} (he : EA K tr δ [.int n]) (h1 : -(2 ^ 62) ≤ n) (h2 : n < 2 ^ 62) (I : Nat → List S) (h0 : weak δ (I 0))
    (k : ∀ i : Nat, (i : Int) < n → ∃ δ2, ET K g (I i) (.int (i : Int)) δ2 ∧ SD K E tb δ2 (fun δ' => weak δ' (I (i + 1))) R N (fun δ' => weak δ' (I (i + 1))) X) (hd : N (I n.toNat)) : SD K E (tFor (iRngU1 tr) g tb) δ N R B C X := by
  refine sd_for (ys := List.range n.toNat) (h := fun (i : Nat) => D.int (i : Int)) (ei_is (ei_rngU1 he h1 h2) (rg0 _)) I h0 (fun i y hy => ?_) (by rw [List.length_range]; exact hd)
  obtain ⟨q, rfl⟩ := range_get hy
  exact k y (by omega)
/-- for k in range(m, n) -/
theorem sd_rng2 {m n : Int} {tr : TA} (he : EA K tr δ [.int m, .int n]) (h1 : -(2 ^ 62) ≤ m ∧ m < 2 ^ 62 ∧ -(2 ^ 62) ≤ n ∧ n < 2 ^ 62) (I : Nat → List S) (h0 : weak δ (I 0))
    (k : ∀ i : Nat, m + (i : Int) < n → ∃ δ2, ET K g (I i) (.int (m + (i : Int))) δ2 ∧ SD K E tb δ2 (fun δ' => weak δ' (I (i + 1))) R N (fun δ' => weak δ' (I (i + 1))) X) (hd : N (I (n - m).toNat)) : SD K E (tFor (iRngU2 tr) g tb) δ N R B C X := by
  refine sd_for (ys := List.range (n - m).toNat) (h := fun (i : Nat) => D.int (m + (i : Int))) (ei_rngU2 he h1) I h0 (fun i y hy => ?_) (by rw [List.length_range]; exact hd)
  obtain ⟨q, rfl⟩ := range_get hy
  exact k y (by omega)
/-- for x in xs -/
theorem sd_forD {ys : List D} (hi : EI K wi δ ys) (I : Nat → List S) (h0 : weak δ (I 0))
    (k : ∀ i y, ys[i]? = some y → ∃ δ2, ET K g (I i) y δ2 ∧ SD K E tb δ2 (fun δ' => weak δ' (I (i + 1))) R N (fun δ' => weak δ' (I (i + 1))) X) (hd : N (I ys.length)) : SD K E (tFor wi g tb) δ N R B C X :=
  sd_for (h := id) (ei_is hi (List.map_id _).symm) I h0 k hd
/-- [e for k in range(n)] -/
theorem ev_lcR1 {n : Int} {tr : TA} {f : Nat → D} (he : EA K tr δ [.int n]) (h1 : -(2 ^ 62) ≤ n) (h2 : n < 2 ^ 62) (hz : n.toNat ≤ sizeLine) (hg : GOk g vs) (k : ∀ i : Nat, (i : Int) < n → ∃ δ2, ET K g (hide δ vs) (.int (i : Int)) δ2 ∧ EV K te δ2 (.d (f i))) : EV K (tLc (iRngU1 tr) g tYes te vs) δ (.own ((List.range n.toNat).map f)) :=
  ev_lc1 (h := fun (i : Nat) => D.int (i : Int)) (ei_is (ei_rngU1 he h1 h2) (rg0 _)) hg (by rw [List.length_range]; exact hz) fun y hy => k y (by have := List.mem_range.mp hy; omega)
theorem ev_lcR2 {m n : Int} {tr : TA} {f : Nat → D} (he : EA K tr δ [.int m, .int n]) (h1 : -(2 ^ 62) ≤ m ∧ m < 2 ^ 62 ∧ -(2 ^ 62) ≤ n ∧ n < 2 ^ 62) (hz : (n - m).toNat ≤ sizeLine) (hg : GOk g vs) (k : ∀ i : Nat, m + (i : Int) < n → ∃ δ2, ET K g (hide δ vs) (.int (m + (i : Int))) δ2 ∧ EV K te δ2 (.d (f i))) : EV K (tLc (iRngU2 tr) g tYes te vs) δ (.own ((List.range (n - m).toNat).map f)) :=
  ev_lc1 (h := fun (i : Nat) => D.int (m + (i : Int))) (ei_rngU2 he h1) hg (by rw [List.length_range]; exact hz) fun y hy => k y (by have := List.mem_range.mp hy; omega)
theorem emod_in (c : Int) {m : Int} (h : 0 < m) : 0 ≤ c % m ∧ c % m < m := ⟨Int.emod_nonneg c (by omega), Int.emod_lt_of_pos c h⟩
theorem is_bl {a b : Bool} : RV2 K rIsB (.bl a) (.bl b) (.d (.bl (decide (a = b)))) := by
  intro He Ge H G σ δ v u ok rv ru Q q
  cases rv; cases ru
  exact ⟨a, b, rfl, rfl, q _ _ (done ok .bl)⟩
theorem not_bl {a b : Bool} : RV2 K rNotB (.bl a) (.bl b) (.d (.bl (!decide (a = b)))) := by
  intro He Ge H G σ δ v u ok rv ru Q q
  cases rv; cases ru
  exact ⟨a, b, rfl, rfl, q _ _ (done ok .bl)⟩
theorem op_isB1 {X : Cx} : OpR X (compareOp .Is) rIsB := op_is_bl
theorem op_notB1 {X : Cx} : OpR X (compareOp .IsNot) rNotB := op_isnot_bl
mutual
theorem eqv_self : ∀ {x : D}, pur x = true → PyData.eqv (pd x) (pd x) = true
  | .non, _ => by simp [pd, PyData.eqv]
  | .bl _, _ => by simp [pd, PyData.eqv]
  | .int _, _ => by simp [pd, PyData.eqv]
  | .str _, _ => by simp [pd, PyData.eqv]
  | .tup xs, h => by simp only [pd, PyData.eqv]; exact eqv_selfL (by simpa [pur] using h)
  | .lst xs, h => by simp only [pd, PyData.eqv]; exact eqv_selfL (by simpa [pur] using h)
  | .scr xs, h => by simp only [pd, PyData.eqv]; exact eqv_selfL (by simpa [pur] using h)
  | .ty _, h => by simp [pur] at h
  | .cls _, h => by simp [pur] at h
  | .ins _ _, h => by simp [pur] at h
  | .dK _, h => by simp [pur] at h
theorem eqv_selfL : ∀ {xs : List D}, purL xs = true → PyData.eqvAll (pdL xs) (pdL xs) = true
  | [], _ => by simp [pdL, PyData.eqvAll]
  | x :: xs, h => by
    simp only [purL, Bool.and_eq_true] at h
    simp only [pdL, PyData.eqvAll, Bool.and_eq_true]
    exact ⟨eqv_self h.1, eqv_selfL h.2⟩
end
theorem eqD_self {x : D} (h : pur x = true) : eqD x x = true := eqv_self h
end
end Far
namespace Far
open PySem L2
/-! ### spans -/
abbrev isPl (x : D) : Bool := isTy x "int" && !isTy x "bool"
abbrev dE : Option Int → D
  | none => .non
  | some i => .int i
abbrev dS (s : Option Int × Option Int) : D := .tup [dE s.1, dE s.2]
abbrev isE (x : D) : Bool := isNon x || isPl x
def leE : D → D → Bool
  | .int i, .int j => decide (i ≤ j)
  | _, _ => true
def isSp : D → Bool
  | .tup [a, b] => isE a && isE b && leE a b
  | _ => false
def knownAll : D → Bool
  | .tup xs => xs.all known
  | .lst xs => xs.all known
  | x => known x
def R_is_place (xs : List D) (out : Out) : Prop := ∃ x, xs = [x] ∧ known x = true ∧ out = .ret (.d (.bl (isPl x)))
def R_is_span (xs : List D) (out : Out) : Prop := ∃ x, xs = [x] ∧ known x = true ∧ knownAll x = true ∧ out = .ret (.d (.bl (isSp x)))
def hasS (s : Option Int × Option Int) (p : Int) : Bool := (match s.1 with | none => true | some a => decide (a ≤ p)) && (match s.2 with | none => true | some b => decide (p ≤ b))
def R_has (xs : List D) (out : Out) : Prop := ∃ s p, xs = [dS s, .int p] ∧ out = .ret (.d (.bl (hasS s p)))
def sizeS (s : Option Int × Option Int) : Option Int := match s.1, s.2 with | some a, some b => some (b - a + 1) | _, _ => none
def R_size_of (xs : List D) (out : Out) : Prop := ∃ s, xs = [dS s] ∧ out = .ret (.d (dE (sizeS s)))
def maxE : Option Int → Option Int → Option Int
  | none, b => b
  | a, none => a
  | some a, some b => some (max a b)
def minE : Option Int → Option Int → Option Int
  | none, b => b
  | a, none => a
  | some a, some b => some (min a b)
def comS (s t : Option Int × Option Int) : Option (Option Int × Option Int) :=
  let a := maxE s.1 t.1
  let b := minE s.2 t.2
  match a, b with
  | some i, some j => if j < i then none else some (a, b)
  | _, _ => some (a, b)
abbrev dO : Option (Option Int × Option Int) → D
  | none => .non
  | some s => dS s
def R_common (xs : List D) (out : Out) : Prop := ∃ s t, xs = [dS s, dS t] ∧ out = .ret (.d (dO (comS s t)))
/-! ### the law's own -/
def cell (ns : List Int) (k : Int) : Int :=
  let c := match ns with | [] => 7919 * k + 11 | _ => (ns.getD (k % ns.length).toNat 0 * 48271 + 104729 * k) + k / ns.length * 7919
  let m := c % 2147483647
  let m := m * m % 2147483629
  (m * m + 69621 * m + k) % 2147483587
abbrev scrD (ns : List Int) : D := .scr (ns.map .int)
def R_l_cell (xs : List D) (out : Out) : Prop := ∃ ns k, xs = [scrD ns, .int k] ∧ ns.length ≤ 63 ∧ out = .ret (.d (.int (cell ns k)))
theorem cell_pos (ns : List Int) (k : Int) : 0 ≤ cell ns k ∧ cell ns k < 2147483587 := by
  unfold cell
  exact ⟨Int.emod_nonneg _ (by decide), Int.emod_lt_of_pos _ (by decide)⟩
def farS (c : Int) (m : Int) : Nat → Int
  | 0 => 1
  | n + 1 => farS c m n * (c + n) % m
def placeL (c : Int) : List Int := [c / 6 % 21 - 10, c / 6 % 21 - 10, c / 6 % 201 - 100, farS c (10 ^ 30) 4, -farS c (10 ^ 30) 4, 0]
def place (c : Int) : Int := (placeL c).getD (c % 6).toNat 0
def R_l_place (xs : List D) (out : Out) : Prop := ∃ c, xs = [.int c] ∧ 0 ≤ c ∧ c < 2147483587 ∧ out = .ret (.d (.int (place c)))
def lastL (c : Int) : List Int := [0, 1, c / 1000 % 4, c / 1000 % 30]
def spanF (c base : Int) : Option Int × Option Int :=
  let a := base + c / 16 % 61 - 30
  let b := a + (lastL c).getD (c / 976 % 4).toNat 0
  if c % 16 = 0 then (none, some b) else if c % 16 = 1 then (some a, none) else if c % 160 = 2 then (none, none) else (some a, some b)
def R_l_span (xs : List D) (out : Out) : Prop := ∃ c b, xs = [.int c, .int b] ∧ 0 ≤ c ∧ c < 2147483587 ∧ out = .ret (.d (dS (spanF c b)))
def badL (c : Int) : List D := [.non, .int 5, .str "3..4", .lst [.int 1, .int 2], .tup [.int 1], .tup [.int 1, .int 2, .int 3], .tup [.int 2, .int 1], .tup [.bl true, .int 3], .tup [.int 0, .bl false], .tup [.int 1, .str "2"], .tup [.non, .str "3"], .dK [], .tup [],
  .tup [.tup [.int 1, .int 2], .int 3], .tup [.int (10 ^ 30), .int (10 ^ 30 - 1)], .tup [.int 0, .int (-1 - c / 16 % 99)]]
def bad (c : Int) : D := (badL c).getD (c % 16).toNat .non
def R_l_bad_span (xs : List D) (out : Out) : Prop := ∃ c, xs = [.int c] ∧ 0 ≤ c ∧ c < 2147483587 ∧ out = .ret (.d (bad c))
def R_l_in (xs : List D) (out : Out) : Prop := ∃ s p, xs = [dS s, .int p] ∧ out = .ret (.d (.bl (hasS s p)))
def R_l_size (xs : List D) (out : Out) : Prop := ∃ s, xs = [dS s] ∧ out = .ret (.d (dE (sizeS s)))
def endsOf : List (Option Int) → List Int
  | [] => []
  | none :: r => endsOf r
  | some i :: r => (i - 1) :: i :: (i + 1) :: endsOf r
def placesF (s t : Option Int × Option Int) : List Int := [-10 ^ 40, 10 ^ 40] ++ endsOf [s.1, s.2, t.1, t.2]
def R_l_places (xs : List D) (out : Out) : Prop := ∃ s t, xs = [dS s, dS t] ∧ out = .ret (.d (.lst ((placesF s t).map .int)))
def spOk (s : Option Int × Option Int) : Prop := match s with | (some a, some b) => a ≤ b | _ => True
def R_l_common_right (xs : List D) (out : Out) : Prop := ∃ s t, xs = [dS s, dS t] ∧ spOk s ∧ spOk t ∧ out = .ret (.d (.bl true))
def R_law (xs : List D) (out : Out) : Prop := ∃ ns : List Int, xs = [scrD ns] ∧ ns.length ≤ 63 ∧ out = .ret (.d (.bl true))
end Far
namespace Far
open PySem L2
def N_is_place : List Str := ["thing"]
def t_is_place (K : PySem.W.Frag) : TS :=
  (tRet (tAndT K (tCB (rIsi K) (tCons (tVar 0) (tCons (tC (.ty "int")) tNil))) (tNotT K (tCB (rIsi K) (tCons (tVar 0) (tCons (tC (.ty "bool")) tNil))))))
def N_is_span : List Str := ["thing", "end"]
def t_is_span (K : PySem.W.Frag) : TS :=
  (tSeq (tIfS (tOr (tNot (tTru K (tCB (rIsi K) (tCons (tVar 0) (tCons (tC (.ty "tuple")) tNil))))) (tTest (tOp (rNeU K) (tCB (rLenU K) (tCons (tVar 0) tNil)) (tC (.int 2)))))
  (tRet (tC (.bl false)))
  tNext)
  (tSeq (tIfS (tNot (tTru K (tCB (rAll K) (tCons (tLc (iSeq K (tVar 0)) (gName 1) tYes (tOrT K (tOp (rIsN) (tVar 1) (tC .non)) (tCall (spD K R_is_place) [] E0 (tCons (tVar 1) tNil))) [1]) tNil))))
  (tRet (tC (.bl false)))
  tNext)
  (tRet (tOrT K (tOp (rIsN) (tOp (rIx K) (tVar 0) (tC (.int 0))) (tC .non)) (tOrT K (tOp (rIsN) (tOp (rIx K) (tVar 0) (tC (.int 1))) (tC .non)) (tOp (rI0 fun i j => .bl (decide (i ≤ j))) (tOp (rIx K) (tVar 0) (tC (.int 0))) (tOp (rIx K) (tVar 0) (tC (.int 1)))))))))
def N_has : List Str := ["span", "place", "first", "last"]
def t_has (K : PySem.W.Frag) : TS :=
  (tSeq (tAsg (tVar 0) (gSeq K 2 (gCons (gName 2) (gCons (gName 3) gNil))))
  (tRet (tAndT K (tOrT K (tOp (rIsN) (tVar 2) (tC .non)) (tOp (rI0 fun i j => .bl (decide (i ≤ j))) (tVar 2) (tVar 1))) (tOrT K (tOp (rIsN) (tVar 3) (tC .non)) (tOp (rI0 fun i j => .bl (decide (i ≤ j))) (tVar 1) (tVar 3))))))
def N_size_of : List Str := ["span", "first", "last"]
def t_size_of (K : PySem.W.Frag) : TS :=
  (tSeq (tAsg (tVar 0) (gSeq K 2 (gCons (gName 1) (gCons (gName 2) gNil))))
  (tSeq (tIfS (tOr (tTest (tOp (rIsN) (tVar 1) (tC .non))) (tTest (tOp (rIsN) (tVar 2) (tC .non))))
  (tRet (tC .non))
  tNext)
  (tRet (tOp (rAddU K) (tOp (rI0 fun i j => .int (i - j)) (tVar 2) (tVar 1)) (tC (.int 1))))))
def N_common : List Str := ["one", "other", "firsts", "span", "lasts", "first", "last"]
def t_common (K : PySem.W.Frag) : TS :=
  (tSeq (tAsg (tLc (iTup K (tTup (tCons (tVar 0) (tCons (tVar 1) tNil)))) (gName 3) (tTest (tOp (rNotN) (tOp (rIx K) (tVar 3) (tC (.int 0))) (tC .non))) (tOp (rIx K) (tVar 3) (tC (.int 0))) [3]) (gName 2))
  (tSeq (tAsg (tLc (iTup K (tTup (tCons (tVar 0) (tCons (tVar 1) tNil)))) (gName 3) (tTest (tOp (rNotN) (tOp (rIx K) (tVar 3) (tC (.int 1))) (tC .non))) (tOp (rIx K) (tVar 3) (tC (.int 1))) [3]) (gName 4))
  (tSeq (tAsg (tCKw (rMxD max K) (tCons (tVar 2) tNil) (tCons (tC .non) tNil)) (gName 5))
  (tSeq (tAsg (tCKw (rMxD min K) (tCons (tVar 4) tNil) (tCons (tC .non) tNil)) (gName 6))
  (tSeq (tIfS (tAnd (tTest (tOp (rNotN) (tVar 5) (tC .non))) (tAnd (tTest (tOp (rNotN) (tVar 6) (tC .non))) (tTest (tOp (rI0 fun i j => .bl (decide (j < i))) (tVar 5) (tVar 6)))))
  (tRet (tC .non))
  tNext)
  (tRet (tTup (tCons (tVar 5) (tCons (tVar 6) tNil)))))))))
def N_l_cell : List Str := ["_law_script", "_law_k", "_law_cell_here", "_law_more"]
def t_l_cell (K : PySem.W.Frag) : TS :=
  (tSeq (tAsg (tOp (rAddU K) (tOp (rMulU K) (tC (.int 7919)) (tVar 1)) (tC (.int 11))) (gName 2))
  (tSeq (tIfS (tTest (tOp (rNeU K) (tVar 0) (tLst tNil)))
  (tSeq (tAsg (tOp (rMulU K) (tOp (rIx K) (tVar 0) (tOp (rI (fun _ j => 0 < j) fun i j => .int (i % j)) (tVar 1) (tCB (rLenU K) (tCons (tVar 0) tNil)))) (tC (.int 48271))) (gName 2))
  (tAsg (tOp (rAddU K) (tOp (rAddU K) (tVar 2) (tOp (rMulU K) (tC (.int 104729)) (tVar 1))) (tOp (rMulU K) (tOp (rI CDivW fun i j => .int (i / j)) (tVar 1) (tCB (rLenU K) (tCons (tVar 0) tNil))) (tC (.int 7919)))) (gName 2)))
  tNext)
  (tSeq (tAsg (tOp (rI (fun _ j => 0 < j) fun i j => .int (i % j)) (tVar 2) (tC (.int 2147483647))) (gName 3))
  (tSeq (tAsg (tOp (rI (fun _ j => 0 < j) fun i j => .int (i % j)) (tOp (rMulU K) (tVar 3) (tVar 3)) (tC (.int 2147483629))) (gName 3))
  (tRet (tOp (rI (fun _ j => 0 < j) fun i j => .int (i % j)) (tOp (rAddU K) (tOp (rAddU K) (tOp (rMulU K) (tVar 3) (tVar 3)) (tOp (rMulU K) (tC (.int 69621)) (tVar 3))) (tVar 1)) (tC (.int 2147483587))))))))
def N_l_place : List Str := ["_law_cell_here", "_law_far", "_law_turn"]
def t_l_place (K : PySem.W.Frag) : TS :=
  (tSeq (tAsg (tC (.int 1)) (gName 1))
  (tSeq (tFor (iRngU1 (tCons (tC (.int 4)) tNil)) (gName 2)
  (tAsg (tOp (rI (fun _ j => 0 < j) fun i j => .int (i % j)) (tOp (rMulU K) (tVar 1) (tOp (rAddU K) (tVar 0) (tVar 2))) (tOp (rI CPow fun i j => .int (i ^ j.toNat)) (tC (.int 10)) (tC (.int 30)))) (gName 1)))
  (tRet (tOp (rIx K) (tLst (tCons (tOp (rI0 fun i j => .int (i - j)) (tOp (rI (fun _ j => 0 < j) fun i j => .int (i % j)) (tOp (rI CDivW fun i j => .int (i / j)) (tVar 0) (tC (.int 6))) (tC (.int 21))) (tC (.int 10))) (tCons (tOp (rI0 fun i j => .int (i - j)) (tOp (rI (fun _ j => 0 < j) fun i j => .int (i % j)) (tOp (rI CDivW fun i j => .int (i / j)) (tVar 0) (tC (.int 6))) (tC (.int 21))) (tC (.int 10))) (tCons (tOp (rI0 fun i j => .int (i - j)) (tOp (rI (fun _ j => 0 < j) fun i j => .int (i % j)) (tOp (rI CDivW fun i j => .int (i / j)) (tVar 0) (tC (.int 6))) (tC (.int 201))) (tC (.int 100))) (tCons (tVar 1) (tCons (tUn (rU fun i => .int (-i)) (tVar 1)) (tCons (tC (.int 0)) tNil))))))) (tOp (rI (fun _ j => 0 < j) fun i j => .int (i % j)) (tVar 0) (tC (.int 6)))))))
def N_l_span : List Str := ["_law_cell_here", "_law_base", "_law_first", "_law_last"]
def t_l_span (K : PySem.W.Frag) : TS :=
  (tSeq (tAsg (tOp (rI0 fun i j => .int (i - j)) (tOp (rAddU K) (tVar 1) (tOp (rI (fun _ j => 0 < j) fun i j => .int (i % j)) (tOp (rI CDivW fun i j => .int (i / j)) (tVar 0) (tC (.int 16))) (tC (.int 61)))) (tC (.int 30))) (gName 2))
  (tSeq (tAsg (tOp (rAddU K) (tVar 2) (tOp (rIx K) (tLst (tCons (tC (.int 0)) (tCons (tC (.int 1)) (tCons (tOp (rI (fun _ j => 0 < j) fun i j => .int (i % j)) (tOp (rI CDivW fun i j => .int (i / j)) (tVar 0) (tC (.int 1000))) (tC (.int 4))) (tCons (tOp (rI (fun _ j => 0 < j) fun i j => .int (i % j)) (tOp (rI CDivW fun i j => .int (i / j)) (tVar 0) (tC (.int 1000))) (tC (.int 30))) tNil))))) (tOp (rI (fun _ j => 0 < j) fun i j => .int (i % j)) (tOp (rI CDivW fun i j => .int (i / j)) (tVar 0) (tC (.int 976))) (tC (.int 4))))) (gName 3))
  (tSeq (tIfS (tTest (tOp (rEqU K) (tOp (rI (fun _ j => 0 < j) fun i j => .int (i % j)) (tVar 0) (tC (.int 16))) (tC (.int 0))))
  (tRet (tTup (tCons (tC .non) (tCons (tVar 3) tNil))))
  tNext)
  (tSeq (tIfS (tTest (tOp (rEqU K) (tOp (rI (fun _ j => 0 < j) fun i j => .int (i % j)) (tVar 0) (tC (.int 16))) (tC (.int 1))))
  (tRet (tTup (tCons (tVar 2) (tCons (tC .non) tNil))))
  tNext)
  (tSeq (tIfS (tTest (tOp (rEqU K) (tOp (rI (fun _ j => 0 < j) fun i j => .int (i % j)) (tVar 0) (tC (.int 160))) (tC (.int 2))))
  (tRet (tTup (tCons (tC .non) (tCons (tC .non) tNil))))
  tNext)
  (tRet (tTup (tCons (tVar 2) (tCons (tVar 3) tNil)))))))))
def N_l_bad_span : List Str := ["_law_cell_here", "_law_some"]
def t_l_bad_span (K : PySem.W.Frag) : TS :=
  (tSeq (tAsg (tLst (tCons (tC .non) (tCons (tC (.int 5)) (tCons (tC (.str "3..4")) (tCons (tLst (tCons (tC (.int 1)) (tCons (tC (.int 2)) tNil))) (tCons (tTup (tCons (tC (.int 1)) tNil)) (tCons (tTup (tCons (tC (.int 1)) (tCons (tC (.int 2)) (tCons (tC (.int 3)) tNil)))) (tCons (tTup (tCons (tC (.int 2)) (tCons (tC (.int 1)) tNil))) (tCons (tTup (tCons (tC (.bl true)) (tCons (tC (.int 3)) tNil))) (tCons (tTup (tCons (tC (.int 0)) (tCons (tC (.bl false)) tNil))) (tCons (tTup (tCons (tC (.int 1)) (tCons (tC (.str "2")) tNil))) (tCons (tTup (tCons (tC .non) (tCons (tC (.str "3")) tNil))) (tCons tDNewK (tCons (tTup tNil) tNil)))))))))))))) (gName 1))
  (tSeq (tAsg (tOp (rAddU K) (tVar 1) (tLst (tCons (tTup (tCons (tTup (tCons (tC (.int 1)) (tCons (tC (.int 2)) tNil))) (tCons (tC (.int 3)) tNil))) (tCons (tTup (tCons (tOp (rI CPow fun i j => .int (i ^ j.toNat)) (tC (.int 10)) (tC (.int 30))) (tCons (tOp (rI0 fun i j => .int (i - j)) (tOp (rI CPow fun i j => .int (i ^ j.toNat)) (tC (.int 10)) (tC (.int 30))) (tC (.int 1))) tNil))) (tCons (tTup (tCons (tC (.int 0)) (tCons (tOp (rI0 fun i j => .int (i - j)) (tUn (rU fun i => .int (-i)) (tC (.int 1))) (tOp (rI (fun _ j => 0 < j) fun i j => .int (i % j)) (tOp (rI CDivW fun i j => .int (i / j)) (tVar 0) (tC (.int 16))) (tC (.int 99)))) tNil))) tNil))))) (gName 1))
  (tRet (tOp (rIx K) (tVar 1) (tOp (rI (fun _ j => 0 < j) fun i j => .int (i % j)) (tVar 0) (tC (.int 16)))))))
def N_l_in : List Str := ["_law_span_here", "_law_place_here"]
def t_l_in (K : PySem.W.Frag) : TS :=
  (tSeq (tIfS (tAnd (tTest (tOp (rNotN) (tOp (rIx K) (tVar 0) (tC (.int 0))) (tC .non))) (tTest (tOp (rI0 fun i j => .bl (decide (i < j))) (tVar 1) (tOp (rIx K) (tVar 0) (tC (.int 0))))))
  (tRet (tC (.bl false)))
  tNext)
  (tRet (tOrT K (tOp (rIsN) (tOp (rIx K) (tVar 0) (tC (.int 1))) (tC .non)) (tOp (rI0 fun i j => .bl (decide (i ≤ j))) (tVar 1) (tOp (rIx K) (tVar 0) (tC (.int 1)))))))
def N_l_size : List Str := ["_law_span_here"]
def t_l_size (K : PySem.W.Frag) : TS :=
  (tSeq (tIfS (tOr (tTest (tOp (rIsN) (tOp (rIx K) (tVar 0) (tC (.int 0))) (tC .non))) (tTest (tOp (rIsN) (tOp (rIx K) (tVar 0) (tC (.int 1))) (tC .non))))
  (tRet (tC .non))
  tNext)
  (tRet (tOp (rAddU K) (tOp (rI0 fun i j => .int (i - j)) (tOp (rIx K) (tVar 0) (tC (.int 1))) (tOp (rIx K) (tVar 0) (tC (.int 0)))) (tC (.int 1)))))
def N_l_places : List Str := ["_law_one", "_law_other", "_law_found", "_law_end"]
def t_l_places (K : PySem.W.Frag) : TS :=
  (tSeq (tAsg (tLst (tCons (tUn (rU fun i => .int (-i)) (tOp (rI CPow fun i j => .int (i ^ j.toNat)) (tC (.int 10)) (tC (.int 40)))) (tCons (tOp (rI CPow fun i j => .int (i ^ j.toNat)) (tC (.int 10)) (tC (.int 40))) tNil))) (gName 2))
  (tSeq (tFor (iSeq K (tOp (rAddU K) (tVar 0) (tVar 1))) (gName 3)
  (tIfS (tTest (tOp (rNotN) (tVar 3) (tC .non)))
  (tAsg (tOp (rAddU K) (tVar 2) (tLst (tCons (tOp (rI0 fun i j => .int (i - j)) (tVar 3) (tC (.int 1))) (tCons (tVar 3) (tCons (tOp (rAddU K) (tVar 3) (tC (.int 1))) tNil))))) (gName 2))
  tNext))
  (tRet (tVar 2))))
def N_l_common_right : List Str := ["_law_one", "_law_other", "_law_found", "_law_place_here", "_law_due"]
def t_l_common_right (K : PySem.W.Frag) : TS :=
  (tSeq (tAsg (tCall (spD K R_common) [] E0 (tCons (tVar 0) (tCons (tVar 1) tNil))) (gName 2))
  (tSeq (tFor (iSeq K (tCall (spD K R_l_places) [] E0 (tCons (tVar 0) (tCons (tVar 1) tNil)))) (gName 3)
  (tSeq (tAsg (tAndT K (tCall (spD K R_l_in) [] E0 (tCons (tVar 0) (tCons (tVar 3) tNil))) (tCall (spD K R_l_in) [] E0 (tCons (tVar 1) (tCons (tVar 3) tNil)))) (gName 4))
  (tIfS (tTest (tOp (rNeU K) (tVar 4) (tAndT K (tOp (rNotN) (tVar 2) (tC .non)) (tCall (spD K R_l_in) [] E0 (tCons (tVar 2) (tCons (tVar 3) tNil))))))
  (tRet (tC (.bl false)))
  tNext)))
  (tRet (tOrT K (tOp (rIsN) (tVar 2) (tC .non)) (tAndT K (tCB (rIsi K) (tCons (tVar 2) (tCons (tC (.ty "tuple")) tNil))) (tOp (rIsB) (tCall (spD K R_is_span) [] E0 (tCons (tVar 2) tNil)) (tC (.bl true))))))))
def N_law : List Str := ["_law_script", "_law_k", "_law_base", "_law_one", "_law_other", "_law_thing", "_law_good", "_law_place_here", "_law_size_here", "_law_far"]
def t_law (K : PySem.W.Frag) : TS :=
  (tSeq (tFor (iRngU1 (tCons (tCB (rMx2) (tCons (tC (.int 1)) (tCons (tCB (rMn2) (tCons (tCB (rLenU K) (tCons (tVar 0) tNil)) (tCons (tC (.int 63)) tNil))) tNil))) tNil)) (gName 1)
  (tSeq (tAsg (tCall (spD K R_l_place) [] E0 (tCons (tCall (spD K R_l_cell) [] E0 (tCons (tVar 0) (tCons (tOp (rMulU K) (tC (.int 3)) (tVar 1)) tNil))) tNil)) (gName 2))
  (tSeq (tAsg (tCall (spD K R_l_span) [] E0 (tCons (tCall (spD K R_l_cell) [] E0 (tCons (tVar 0) (tCons (tOp (rAddU K) (tOp (rMulU K) (tC (.int 3)) (tVar 1)) (tC (.int 1))) tNil))) (tCons (tVar 2) tNil))) (gName 3))
  (tSeq (tAsg (tCall (spD K R_l_span) [] E0 (tCons (tCall (spD K R_l_cell) [] E0 (tCons (tVar 0) (tCons (tOp (rAddU K) (tOp (rMulU K) (tC (.int 3)) (tVar 1)) (tC (.int 2))) tNil))) (tCons (tVar 2) tNil))) (gName 4))
  (tSeq (tIfS (tOr (tTest (tOp (rNotB) (tCall (spD K R_is_span) [] E0 (tCons (tVar 3) tNil)) (tC (.bl true)))) (tTest (tOp (rNotB) (tCall (spD K R_is_span) [] E0 (tCons (tCall (spD K R_l_bad_span) [] E0 (tCons (tCall (spD K R_l_cell) [] E0 (tCons (tVar 0) (tCons (tOp (rMulU K) (tC (.int 3)) (tVar 1)) tNil))) tNil)) tNil)) (tC (.bl false)))))
  (tRet (tC (.bl false)))
  tNext)
  (tSeq (tAsg (tOp (rIx K) (tLst (tCons (tVar 2) (tCons (tC (.bl true)) (tCons (tC .non) (tCons (tC (.str "5")) (tCons (tTup (tCons (tC (.int 5)) tNil)) (tCons (tC (.bl false)) (tCons (tUn (rU fun i => .int (-i)) (tVar 2)) (tCons (tLst (tCons (tC (.int 3)) tNil)) tNil))))))))) (tOp (rI (fun _ j => 0 < j) fun i j => .int (i % j)) (tCall (spD K R_l_cell) [] E0 (tCons (tVar 0) (tCons (tOp (rAddU K) (tOp (rMulU K) (tC (.int 3)) (tVar 1)) (tC (.int 1))) tNil))) (tC (.int 8)))) (gName 5))
  (tSeq (tAsg (tAndT K (tCB (rIsi K) (tCons (tVar 5) (tCons (tC (.ty "int")) tNil))) (tNotT K (tCB (rIsi K) (tCons (tVar 5) (tCons (tC (.ty "bool")) tNil))))) (gName 6))
  (tSeq (tIfS (tOr (tNot (tTru K (tCB (rIsi K) (tCons (tCall (spD K R_is_place) [] E0 (tCons (tVar 5) tNil)) (tCons (tC (.ty "bool")) tNil))))) (tTest (tOp (rNeU K) (tCall (spD K R_is_place) [] E0 (tCons (tVar 5) tNil)) (tVar 6))))
  (tRet (tC (.bl false)))
  tNext)
  (tSeq (tFor (iSeq K (tCall (spD K R_l_places) [] E0 (tCons (tVar 3) (tCons (tVar 4) tNil)))) (gName 7)
  (tIfS (tOr (tNot (tTru K (tCB (rIsi K) (tCons (tCall (spD K R_has) [] E0 (tCons (tVar 3) (tCons (tVar 7) tNil))) (tCons (tC (.ty "bool")) tNil))))) (tTest (tOp (rNeU K) (tCall (spD K R_has) [] E0 (tCons (tVar 3) (tCons (tVar 7) tNil))) (tCall (spD K R_l_in) [] E0 (tCons (tVar 3) (tCons (tVar 7) tNil))))))
  (tRet (tC (.bl false)))
  tNext))
  (tSeq (tAsg (tCall (spD K R_size_of) [] E0 (tCons (tVar 3) tNil)) (gName 8))
  (tSeq (tIfS (tOr (tTest (tOp (rNeU K) (tVar 8) (tCall (spD K R_l_size) [] E0 (tCons (tVar 3) tNil)))) (tTru K (tCB (rIsi K) (tCons (tVar 8) (tCons (tC (.ty "bool")) tNil)))))
  (tRet (tC (.bl false)))
  tNext)
  (tSeq (tAsg (tOp (rAddU K) (tOp (rI CPow fun i j => .int (i ^ j.toNat)) (tC (.int 10)) (tC (.int 30))) (tCall (spD K R_l_cell) [] E0 (tCons (tVar 0) (tCons (tOp (rAddU K) (tOp (rMulU K) (tC (.int 3)) (tVar 1)) (tC (.int 1))) tNil)))) (gName 9))
  (tSeq (tIfS (tTest (tOp (rNeU K) (tCall (spD K R_size_of) [] E0 (tCons (tTup (tCons (tOp (rI0 fun i j => .int (i - j)) (tVar 2) (tVar 9)) (tCons (tOp (rAddU K) (tVar 2) (tVar 9)) tNil))) tNil)) (tOp (rAddU K) (tOp (rMulU K) (tC (.int 2)) (tVar 9)) (tC (.int 1)))))
  (tRet (tC (.bl false)))
  tNext)
  (tIfS (tOr (tNot (tTru K (tCall (spD K R_l_common_right) [] E0 (tCons (tVar 3) (tCons (tVar 4) tNil))))) (tTest (tOp (rNeU K) (tCall (spD K R_common) [] E0 (tCons (tVar 3) (tCons (tVar 4) tNil))) (tCall (spD K R_common) [] E0 (tCons (tVar 4) (tCons (tVar 3) tNil))))))
  (tRet (tC (.bl false)))
  tNext))))))))))))))
  (tRet (tC (.bl true))))
end Far
namespace Far
open PySem L2
/-! the words that go over data: ev (expressions, tests, arguments, sources, targets), rv (operators), side (sizes), call (specs) -/
local macro_rules | `(tactic| walk_at "side") => `(tactic| first | assumption | omega | exact sz (Nat.le_of_ble_eq_true rfl) | decide | (simp only [List.length_map, List.length_cons, List.length_nil, List.length_append]; omega))
local macro_rules | `(tactic| walk_at "pur") => `(tactic| first | assumption | rfl)
local macro_rules | `(tactic| walk_at "dep") => `(tactic| first | assumption | exact Nat.le_of_ble_eq_true rfl)
local macro_rules | `(tactic| walk_at "lit") => `(tactic| first | rfl | assumption)
local macro_rules | `(tactic| walk_at "call") => `(tactic| fail "no spec")
local macro_rules | `(tactic| walk_at "tr") => `(tactic| first | with_reducible exact TrD.bl _ | with_reducible exact TrD.int _ | with_reducible exact TrD.non | with_reducible exact TrD.lst _ | with_reducible exact TrD.tup _ | with_reducible exact TrD.str _ (by walk_at "side"))
local macro_rules | `(tactic| walk_at "at") => `(tactic| first | assumption | rfl)
local macro_rules | `(tactic| walk_at "rv") => `(tactic| first
  | with_reducible exact add_int | with_reducible exact sub_int | ((with_reducible apply mul_int); walk_at "cmul") | ((with_reducible apply fdiv_int); walk_at "cdiv") | ((with_reducible apply mod_int); walk_at "side") | ((with_reducible apply pow_int); walk_at "cpow") | with_reducible exact neg_int
  | with_reducible exact lt_int | with_reducible exact le_int | with_reducible exact gt_int | with_reducible exact ge_int
  | with_reducible exact is_bl | with_reducible exact not_bl
  | with_reducible exact is_non | with_reducible exact not_non
  | with_reducible exact eq_int | with_reducible exact ne_int | with_reducible exact eq_bl | with_reducible exact ne_bl | with_reducible exact eq_str | with_reducible exact ne_str
  | with_reducible exact ne_scr_nil
  | with_reducible exact eq_int_non | with_reducible exact eq_non_int | with_reducible exact ne_int_non | with_reducible exact ne_non_int | with_reducible exact eq_non | with_reducible exact ne_non
  | ((with_reducible apply ix_lst); walk_at "at") | ((with_reducible apply ix_tup); walk_at "at") | ((with_reducible apply ix_scr); walk_at "at")
  | with_reducible exact len_lst | with_reducible exact len_tup | with_reducible exact len_scr | ((with_reducible apply len_str); walk_at "side")
  | with_reducible exact min2 | with_reducible exact max2 | with_reducible exact all_bls
  | ((with_reducible apply isi_ty); (· walk_at "known"); (· walk_at "kit"))
  | ((with_reducible apply add_lst); walk_at "side") | ((with_reducible apply add_tup); walk_at "side") | ((with_reducible apply add_str); walk_at "side") | ((with_reducible apply mul_wide); walk_at "cmulw")
  | with_reducible exact tuple_lst | with_reducible exact tuple_tup | with_reducible exact list_lst | with_reducible exact list_tup | with_reducible exact int_int | with_reducible exact int_bl | ((with_reducible apply str_int); walk_at "side") | with_reducible exact str_str
  | ((with_reducible apply eq_D); (· walk_at "pur"); (· walk_at "pur"); (· walk_at "dep"); (· walk_at "dep")) | ((with_reducible apply ne_D); (· walk_at "pur"); (· walk_at "pur"); (· walk_at "dep"); (· walk_at "dep")))
local macro_rules | `(tactic| walk_at "cmul") => `(tactic| first | assumption | exact Or.inl ⟨by omega, by omega⟩ | exact Or.inr ⟨by omega, by omega⟩)
local macro_rules | `(tactic| walk_at "cmulw") => `(tactic| fail "wide")
local macro_rules | `(tactic| walk_at "cdiv") => `(tactic| first | assumption | exact ⟨by decide, by decide⟩ | exact cdiv_small (by omega) (by omega))
local macro_rules | `(tactic| walk_at "cpow") => `(tactic| exact ⟨by decide, by decide, by decide⟩)
local macro_rules | `(tactic| walk_at "known") => `(tactic| first | rfl | assumption)
local macro_rules | `(tactic| walk_at "kit") => `(tactic| first | exact kit_any (by walk_at "known") (by simp) | assumption)
local macro_rules | `(tactic| walk_at "ev") => `(tactic| first
  | with_reducible exact ev_int | with_reducible exact ev_bl | with_reducible exact ev_non | with_reducible exact ev_str | with_reducible exact ev_ty | with_reducible exact ev_cls
  | ((with_reducible apply ev_var); rfl)
  | with_reducible exact ea_nil
  | ((with_reducible apply ea_cons); (· walk_at "ev"); (· walk_at "ev"))
  | ((with_reducible apply ev_op); (· walk_at "ev"); (· walk_at "ev"); (· walk_at "rv"))
  | ((with_reducible apply ev_frz); (with_reducible apply ev_op); (· walk_at "ev"); (· walk_at "ev"); (· walk_at "rv"))
  | ((with_reducible apply ev_un); (· walk_at "ev"); (· walk_at "rv"))
  | ((with_reducible apply ev_cb); (· walk_at "ev"); (· walk_at "rv"))
  | ((with_reducible apply ev_frz); (with_reducible apply ev_cb); (· walk_at "ev"); (· walk_at "rv"))
  | ((with_reducible apply ev_call); (· walk_at "ev"); (· walk_at "call"))
  | ((with_reducible apply ev_frz); (with_reducible apply ev_call); (· walk_at "ev"); (· walk_at "call"))
  | ((with_reducible apply eb_test); walk_at "ev") | ((with_reducible apply eb_B); walk_at "ev")
  | ((with_reducible apply eb_not); walk_at "ev")
  | ((with_reducible apply eb_and1); (· walk_at "ev"); (· walk_at "lit")) | ((with_reducible apply eb_and0); (· walk_at "ev"); (· walk_at "lit"); (· walk_at "ev"))
  | ((with_reducible apply eb_and); (· walk_at "ev"); (· intro _; walk_at "ev"))
  | ((with_reducible apply eb_or1); (· walk_at "ev"); (· walk_at "lit")) | ((with_reducible apply eb_or0); (· walk_at "ev"); (· walk_at "lit"); (· walk_at "ev"))
  | ((with_reducible apply eb_or); (· walk_at "ev"); (· intro _; walk_at "ev"))
  | ((with_reducible apply eb_tru); (· walk_at "ev"); (· walk_at "tr"))
  | ((with_reducible apply ev_andB1); (· walk_at "ev"); (· walk_at "lit")) | ((with_reducible apply ev_andB0); (· walk_at "ev"); (· walk_at "lit"); (· walk_at "ev"))
  | ((with_reducible apply ev_andB); (· walk_at "ev"); (· intro _; walk_at "ev"))
  | ((with_reducible apply ev_orB1); (· walk_at "ev"); (· walk_at "lit")) | ((with_reducible apply ev_orB0); (· walk_at "ev"); (· walk_at "lit"); (· walk_at "ev"))
  | ((with_reducible apply ev_orB); (· walk_at "ev"); (· intro _; walk_at "ev"))
  | ((with_reducible apply ev_orT); (· walk_at "ev"); (· walk_at "tr"); (· intro _; walk_at "ev"))
  | ((with_reducible apply ev_andT); (· walk_at "ev"); (· walk_at "tr"); (· intro _; walk_at "ev"))
  | ((with_reducible apply ev_notT); (· walk_at "ev"); (· walk_at "tr"))
  | ((with_reducible apply ev_if1'); (· walk_at "ev"); (· walk_at "lit"); (· walk_at "ev")) | ((with_reducible apply ev_if0'); (· walk_at "ev"); (· walk_at "lit"); (· walk_at "ev"))
  | ((with_reducible apply ev_ifI); (· walk_at "ev"); (· intro _; walk_at "ev"); (· intro _; walk_at "ev"))
  | ((with_reducible apply ev_ifB); (· walk_at "ev"); (· intro _; walk_at "ev"); (· intro _; walk_at "ev"))
  | ((with_reducible apply ev_ifS); (· walk_at "ev"); (· intro _; walk_at "ev"); (· intro _; walk_at "ev"))
  | ((with_reducible apply ev_ifD); (· walk_at "ev"); (· intro _; walk_at "ev"); (· intro _; walk_at "ev"))
  | ((with_reducible apply ev_tup); (· walk_at "ev"); (· walk_at "side"))
  | ((with_reducible apply ev_lst); (· walk_at "ev"); (· walk_at "side"))
  | ((with_reducible apply ev_frz); (with_reducible apply ev_lst); (· walk_at "ev"); (· walk_at "side"))
  | with_reducible exact ev_dnew
  | with_reducible exact eo_none
  | ((with_reducible apply eo_some); walk_at "ev")
  | ((with_reducible apply ev_slL); (· walk_at "ev"); (· walk_at "ev"); (· walk_at "ev"))
  | ((with_reducible apply ev_slT); (· walk_at "ev"); (· walk_at "ev"); (· walk_at "ev"))
  | ((with_reducible apply ev_frz); (with_reducible apply ev_slL); (· walk_at "ev"); (· walk_at "ev"); (· walk_at "ev"))
  | ((with_reducible apply ev_mxD); (· walk_at "ev"); (· walk_at "ev"))
  | ((with_reducible apply ei_seqL); walk_at "ev") | ((with_reducible apply ei_seqT); walk_at "ev") | ((with_reducible apply ei_tup); walk_at "ev")
  | ((with_reducible apply ei_rngU1); (· walk_at "ev"); (· walk_at "side"); (· walk_at "side"))
  | ((with_reducible apply ei_rngU2); (· walk_at "ev"); (· walk_at "rngs"))
  | ((with_reducible apply et_name); walk_at "lt")
  | ((with_reducible apply et_seqT); (· walk_at "ets"); (· rfl)) | ((with_reducible apply et_seqL); (· walk_at "ets"); (· rfl)))
local macro_rules | `(tactic| walk_at "rngs") => `(tactic| exact ⟨by omega, by omega, by omega, by omega⟩)
local macro_rules | `(tactic| walk_at "lt") => `(tactic| first | exact Nat.le_of_ble_eq_true rfl | decide)
local macro_rules | `(tactic| walk_at "ets") => `(tactic| first | with_reducible exact ETs.nil | ((with_reducible apply ETs.cons); (· walk_at "ev"); (· walk_at "ets")))
/-! one statement -/
local macro_rules | `(tactic| walk_at "sd") => `(tactic| first
  | (with_reducible apply sd_seq)
  | ((with_reducible apply sd_setD); (· walk_at "ev"); (· walk_at "lt"))
  | ((with_reducible apply sd_ret); (· walk_at "ev"))
  | ((with_reducible apply sd_if1); (· walk_at "ev"); (· walk_at "lit")) | ((with_reducible apply sd_if0); (· walk_at "ev"); (· walk_at "lit"))
  | ((with_reducible apply sd_if); (· walk_at "ev"))
  | ((with_reducible apply sd_asg); (· walk_at "ev"); (· walk_at "ev"))
  | (with_reducible apply sd_next)
  | (with_reducible apply sd_retN))
local macro_rules | `(tactic| walk_at "weak") => `(tactic| (apply WK.weak; repeat (first | exact WK.nil | apply WK.same | apply WK.un)))
section A
variable {K : PySem.W.Frag} (E : XK) {xs : List D} {out : Out}
theorem hl_is_place : ∀ xs out, R_is_place xs out → xs.length = ["thing"].length := by rintro _ _ ⟨x, rfl, _⟩; rfl
theorem sd_is_place (h : R_is_place xs out) : SDef K E (t_is_place K) (slots N_is_place.length xs) out := by
  obtain ⟨x, rfl, hk, rfl⟩ := h
  show SD K E (t_is_place K) [.d x] _ _ _ _ _
  unfold t_is_place
  walk_at "sd"
  exact .inl rfl
theorem hl_is_span : ∀ xs out, R_is_span xs out → xs.length = ["thing"].length := by rintro _ _ ⟨x, rfl, _⟩; rfl
local macro_rules | `(tactic| walk_at "call") => `(tactic| first | exact ⟨_, rfl, by walk_at "known", rfl⟩)
theorem isE_cases {x : D} (h : isE x = true) (hk : known x = true) : ∃ o, x = dE o := by
  cases x <;> simp [known] at hk
  · exact ⟨none, rfl⟩
  · simp [isE, isPl, isNon, isTy_bl_int, isTy_bl_bool] at h
  · rename_i i; exact ⟨some i, rfl⟩
  all_goals simp [isE, isPl, isNon, isTy_str_int, isTy_tup_int, isTy_lst_int, isTy_dK_int] at h
theorem isSp_tuple {x : D} (h : isTy x "tuple" = false) : isSp x = false := by
  cases x <;> first | rfl | (rw [isTy_tup_tuple] at h; cases h)
theorem isSp_all {ys : List D} (h : ys.all isE = false) : isSp (.tup ys) = false := by
  match ys, h with
  | [], _ => rfl
  | [_], _ => rfl
  | [a, b], h => simp only [List.all_cons, List.all_nil, Bool.and_true] at h; simp only [isSp, h, Bool.false_and]
  | _ :: _ :: _ :: _, _ => rfl
theorem sd_is_span (h : R_is_span xs out) : SDef K E (t_is_span K) (slots N_is_span.length xs) out := by
  obtain ⟨x, rfl, hk, hka, rfl⟩ := h
  show SD K E (t_is_span K) [.d x, .un] _ _ _ _ _
  unfold t_is_span
  cases ht : isTy x "tuple" with
  | false =>
    walk_at "sd"
    refine sd_if (b := true) (eb_orT (eb_is (eb_not (eb_tru (by walk_at "ev") (.bl _))) (by rw [ht]; rfl))) (fun _ => ?_) (fun z => nomatch z)
    walk_at "sd"
    rw [isSp_tuple ht]; exact .inl rfl
  | true =>
    obtain ⟨ys, rfl⟩ := isTy_tuple ht hk
    have hall : ys.all known = true := hka
    walk_at "sd"
    walk_at "sd"
    · intro h2
      walk_at "sd"
      have e : isSp (.tup ys) = false := by
        match ys, h2 with
        | [], _ => rfl
        | [_], _ => rfl
        | [a, b], h2 => simp [isTy_tup_tuple] at h2
        | _ :: _ :: _ :: _, _ => rfl
      rw [e]; exact .inl rfl
    · intro h2
      walk_at "sd"
      have h3 : ys.length = 2 := by simp [isTy_tup_tuple] at h2; omega
      obtain ⟨a, b, rfl⟩ : ∃ a b, ys = [a, b] := by
        match ys, h3 with
        | [a, b], _ => exact ⟨a, b, rfl⟩
      walk_at "sd"
      refine sd_if (b := !([a, b].all isE)) (eb_not (eb_tru (ev_allD (b := isE) (by walk_at "ev") (gok_name (by decide)) (by walk_at "side") fun y hy => ?_) (.bl _))) (fun h4 => ?_) (fun h4 => ?_)
      · have hky := known_get hall hy
        exact ⟨_, by walk_at "ev", by walk_at "ev"⟩
      · walk_at "sd"
        rw [isSp_all (by rwa [Bool.not_eq_true'] at h4)]; exact .inl rfl
      · have h5 : [a, b].all isE = true := by rwa [Bool.not_eq_false'] at h4
        simp only [List.all_cons, List.all_nil, Bool.and_true, Bool.and_eq_true] at h5 hall
        obtain ⟨o1, rfl⟩ := isE_cases h5.1 hall.1
        obtain ⟨o2, rfl⟩ := isE_cases h5.2 hall.2
        walk_at "sd"
        have e : isSp (.tup [dE o1, dE o2]) = leE (dE o1) (dE o2) := by show (isE _ && isE _ && leE _ _) = _; rw [h5.1, h5.2]; rfl
        rw [e]
        cases o1 with
        | none =>
          walk_at "sd"
          exact .inl rfl
        | some i =>
          cases o2 with
          | none =>
            walk_at "sd"
            exact .inl rfl
          | some j =>
            walk_at "sd"
            exact .inl rfl
theorem hl_has : ∀ xs out, R_has xs out → xs.length = ["span", "place"].length := by rintro _ _ ⟨x, y, rfl, _⟩; rfl
theorem sd_has (h : R_has xs out) : SDef K E (t_has K) (slots N_has.length xs) out := by
  obtain ⟨⟨a, b⟩, p, rfl, rfl⟩ := h
  show SD K E (t_has K) [.d (dS (a, b)), .d (.int p), .un, .un] _ _ _ _ _
  unfold t_has
  walk_at "sd"
  walk_at "sd"
  cases a <;> cases b <;> (walk_at "sd"; exact .inl rfl)
theorem hl_size_of : ∀ xs out, R_size_of xs out → xs.length = ["span"].length := by rintro _ _ ⟨x, rfl, _⟩; rfl
theorem sd_size_of (h : R_size_of xs out) : SDef K E (t_size_of K) (slots N_size_of.length xs) out := by
  obtain ⟨⟨a, b⟩, rfl, rfl⟩ := h
  show SD K E (t_size_of K) [.d (dS (a, b)), .un, .un] _ _ _ _ _
  unfold t_size_of
  walk_at "sd"
  walk_at "sd"
  cases a <;> cases b <;> (repeat walk_at "sd") <;> exact .inl rfl
theorem hl_l_in : ∀ xs out, R_l_in xs out → xs.length = ["_law_span_here", "_law_place_here"].length := by rintro _ _ ⟨x, y, rfl, _⟩; rfl
theorem sd_l_in (h : R_l_in xs out) : SDef K E (t_l_in K) (slots N_l_in.length xs) out := by
  obtain ⟨⟨a, b⟩, p, rfl, rfl⟩ := h
  show SD K E (t_l_in K) [.d (dS (a, b)), .d (.int p)] _ _ _ _ _
  unfold t_l_in
  cases a with
  | none =>
    cases b <;> (repeat walk_at "sd") <;> exact .inl rfl
  | some a =>
    walk_at "sd"
    walk_at "sd"
    · intro h
      walk_at "sd"
      have e : hasS (some a, b) p = false := by simp only [decide_eq_true_eq] at h; unfold hasS; simp; intro; omega
      rw [e]; exact .inl rfl
    · intro h
      walk_at "sd"
      have e : hasS (some a, b) p = hasS (none, b) p := by simp only [decide_eq_false_iff_not] at h; unfold hasS; simp; intro _; omega
      rw [e]
      cases b <;> (walk_at "sd"; exact .inl rfl)
theorem hl_l_size : ∀ xs out, R_l_size xs out → xs.length = ["_law_span_here"].length := by rintro _ _ ⟨x, rfl, _⟩; rfl
theorem sd_l_size (h : R_l_size xs out) : SDef K E (t_l_size K) (slots N_l_size.length xs) out := by
  obtain ⟨⟨a, b⟩, rfl, rfl⟩ := h
  show SD K E (t_l_size K) [.d (dS (a, b))] _ _ _ _ _
  unfold t_l_size
  cases a <;> cases b <;> (repeat walk_at "sd") <;> exact .inl rfl
theorem hl_common : ∀ xs out, R_common xs out → xs.length = ["one", "other"].length := by rintro _ _ ⟨x, y, rfl, _⟩; rfl
theorem sd_common (h : R_common xs out) : SDef K E (t_common K) (slots N_common.length xs) out := by
  obtain ⟨⟨a, b⟩, ⟨c, d⟩, rfl, rfl⟩ := h
  show SD K E (t_common K) [.d (dS (a, b)), .d (dS (c, d)), .un, .un, .un, .un, .un] _ _ _ _ _
  unfold t_common
  -- firsts
  walk_at "sd"
  refine sd_setD (x := .lst (([a, c].filterMap id).map .int)) (ev_frz ?_) (by walk_at "lt") ?_
  · have z := ev_lc (K := K) (δ := [.d (dS (a, b)), .d (dS (c, d)), .un, .un, .un, .un, .un]) (ys := [(a, b), (c, d)]) (h := dS) (p := fun s => s.1.isSome) (f := fun s => dE s.1) (wi := (iTup K (tTup (tCons (tVar 0) (tCons (tVar 1) tNil))))) (g := gName 3) (vs := [3])
      (tt := (tTest (tOp (rNotN) (tOp (rIx K) (tVar 3) (tC (.int 0))) (tC .non)))) (te := (tOp (rIx K) (tVar 3) (tC (.int 0)))) (ei_is (by walk_at "ev") (by rfl)) (gok_name (by decide)) (by walk_at "side") fun s hs => ⟨_, by walk_at "ev", by
        obtain ⟨u, v⟩ := s
        cases u <;> exact eb_is (by walk_at "ev") (by rfl), fun _ => by walk_at "ev"⟩
    have e : (List.filter (fun s : Option Int × Option Int => s.1.isSome) [(a, b), (c, d)]).map (fun s => dE s.1) = ([a, c].filterMap id).map .int := by cases a <;> cases c <;> rfl
    rw [e] at z
    exact z
  walk_at "sd"
  refine sd_setD (x := .lst (([b, d].filterMap id).map .int)) (ev_frz ?_) (by walk_at "lt") ?_
  · have z := ev_lc (K := K) (δ := [.d (dS (a, b)), .d (dS (c, d)), .d (.lst (([a, c].filterMap id).map .int)), .un, .un, .un, .un]) (ys := [(a, b), (c, d)]) (h := dS) (p := fun s => s.2.isSome) (f := fun s => dE s.2) (wi := (iTup K (tTup (tCons (tVar 0) (tCons (tVar 1) tNil))))) (g := gName 3) (vs := [3])
      (tt := (tTest (tOp (rNotN) (tOp (rIx K) (tVar 3) (tC (.int 1))) (tC .non)))) (te := (tOp (rIx K) (tVar 3) (tC (.int 1)))) (ei_is (by walk_at "ev") (by rfl)) (gok_name (by decide)) (by walk_at "side") fun s hs => ⟨_, by walk_at "ev", by
        obtain ⟨u, v⟩ := s
        cases v <;> exact eb_is (by walk_at "ev") (by rfl), fun _ => by walk_at "ev"⟩
    have e : (List.filter (fun s : Option Int × Option Int => s.2.isSome) [(a, b), (c, d)]).map (fun s => dE s.2) = ([b, d].filterMap id).map .int := by cases b <;> cases d <;> rfl
    rw [e] at z
    exact z
  -- first, last
  have m1 : mxD max ([a, c].filterMap id) .non = dE (maxE a c) := by cases a <;> cases c <;> rfl
  have m2 : mxD min ([b, d].filterMap id) .non = dE (minE b d) := by cases b <;> cases d <;> rfl
  walk_at "sd"
  refine sd_setD (x := dE (maxE a c)) (m1 ▸ ev_mxD (by walk_at "ev") (by walk_at "ev")) (by walk_at "lt") ?_
  walk_at "sd"
  refine sd_setD (x := dE (minE b d)) (m2 ▸ ev_mxD (by walk_at "ev") (by walk_at "ev")) (by walk_at "lt") ?_
  have ec : comS (a, b) (c, d) = (match maxE a c, minE b d with | some i, some j => if j < i then none else some (maxE a c, minE b d) | _, _ => some (maxE a c, minE b d)) := rfl
  rw [ec]
  generalize maxE a c = u
  generalize minE b d = v
  cases u with
  | none => (repeat walk_at "sd"); exact .inl rfl
  | some i =>
    cases v with
    | none => (repeat walk_at "sd"); exact .inl rfl
    | some j =>
      walk_at "sd"
      walk_at "sd"
      · intro h
        have h' : j < i := by simpa [isNon] using h
        walk_at "sd"
        simp only [if_pos h']
        exact .inl rfl
      · intro h
        have h' : ¬ j < i := by simpa [isNon] using h
        walk_at "sd"
        walk_at "sd"
        simp only [if_neg h']
        exact .inl rfl
/-! ### the law's own -/
theorem hl_l_cell : ∀ xs out, R_l_cell xs out → xs.length = ["_law_script", "_law_k"].length := by rintro _ _ ⟨x, y, rfl, _⟩; rfl
theorem atI_scr {ns : List Int} {k : Int} (h0 : 0 ≤ k) (h1 : k < ns.length) : L2.atI (ns.map D.int) k = some (.int (ns.getD k.toNat 0)) := atI_ints h0 h1
theorem mul_self_ok {m : Int} (h0 : 0 ≤ m) (h1 : m < 2147483647) : CMul m m := .inl ⟨by omega, by omega⟩
theorem sd_l_cell (h : R_l_cell xs out) : SDef K E (t_l_cell K) (slots N_l_cell.length xs) out := by
  obtain ⟨ns, k, rfl, hl, rfl⟩ := h
  show SD K E (t_l_cell K) [.d (scrD ns), .d (.int k), .un, .un] _ _ _ _ _
  unfold t_l_cell
  walk_at "sd"
  walk_at "sd"
  walk_at "sd"
  have tail : ∀ c : Int, cell ns k = (let m := c % 2147483647; let m := m * m % 2147483629; (m * m + 69621 * m + k) % 2147483587) → SD K E (tSeq (tAsg (tOp (rI (fun _ j => 0 < j) fun i j => .int (i % j)) (tVar 2) (tC (.int 2147483647))) (gName 3))
  (tSeq (tAsg (tOp (rI (fun _ j => 0 < j) fun i j => .int (i % j)) (tOp (rMulU K) (tVar 3) (tVar 3)) (tC (.int 2147483629))) (gName 3))
  (tRet (tOp (rI (fun _ j => 0 < j) fun i j => .int (i % j)) (tOp (rAddU K) (tOp (rAddU K) (tOp (rMulU K) (tVar 3) (tVar 3)) (tOp (rMulU K) (tC (.int 69621)) (tVar 3))) (tVar 1)) (tC (.int 2147483587)))))) [.d (scrD ns), .d (.int k), .d (.int c), .un] (fun _ => Out.ret (.d (.int (cell ns k))) = .ret (.d .non)) (Fits (.ret (.d (.int (cell ns k))))) NoS NoS (fun a fs => Out.ret (.d (.int (cell ns k))) = .exc a fs) := by
    intro c hc
    have m0 := Int.emod_nonneg c (b := 2147483647) (by decide)
    have m1 := Int.emod_lt_of_pos c (b := 2147483647) (by decide)
    have n0 := Int.emod_nonneg (c % 2147483647 * (c % 2147483647)) (b := 2147483629) (by decide)
    have n1 := Int.emod_lt_of_pos (c % 2147483647 * (c % 2147483647)) (b := 2147483629) (by decide)
    walk_at "sd"
    walk_at "sd"
    walk_at "sd"
    walk_at "sd"
    walk_at "sd"
    rw [hc]
    exact .inl rfl
  match ns, hl with
  | [], _ =>
    walk_at "sd"
    walk_at "sd"
    exact tail _ rfl
  | n :: r, hl =>
    have hp : (0 : Int) < ((List.map D.int (n :: r)).length : Int) := by simp only [List.length_map, List.length_cons]; omega
    have hq : ((List.map D.int (n :: r)).length : Int) = ((n :: r).length : Int) := by rw [List.length_map]
    have hk0 := Int.emod_nonneg k (b := ((n :: r).length : Int)) (by simp only [List.length_cons]; omega)
    have hk1 := Int.emod_lt_of_pos k (b := ((n :: r).length : Int)) (by simp only [List.length_cons]; omega)
    have hat : L2.atI (List.map D.int (n :: r)) (k % ((List.map D.int (n :: r)).length : Int)) = some (.int ((n :: r).getD (k % ((n :: r).length : Int)).toNat 0)) := by rw [hq]; exact atI_ints hk0 hk1
    have hdv : CDivW k ((List.map D.int (n :: r)).length : Int) := cdiv_small (by omega) (by simp only [List.length_cons] at hl; simp only [List.length_map, List.length_cons]; omega)
    walk_at "sd"
    walk_at "sd"
    walk_at "sd"
    walk_at "sd"
    refine tail _ ?_
    rw [hq]; rfl
end A
end Far
namespace Far
open PySem L2
/-! the words that go over data: ev (expressions, tests, arguments, sources, targets), rv (operators), side (sizes), call (specs) -/
local macro_rules | `(tactic| walk_at "side") => `(tactic| first | assumption | omega | exact sz (Nat.le_of_ble_eq_true rfl) | decide | (simp only [List.length_map, List.length_cons, List.length_nil, List.length_append]; omega))
local macro_rules | `(tactic| walk_at "pur") => `(tactic| first | assumption | rfl)
local macro_rules | `(tactic| walk_at "dep") => `(tactic| first | assumption | exact Nat.le_of_ble_eq_true rfl)
local macro_rules | `(tactic| walk_at "lit") => `(tactic| first | rfl | assumption)
local macro_rules | `(tactic| walk_at "call") => `(tactic| fail "no spec")
local macro_rules | `(tactic| walk_at "tr") => `(tactic| first | with_reducible exact TrD.bl _ | with_reducible exact TrD.int _ | with_reducible exact TrD.non | with_reducible exact TrD.lst _ | with_reducible exact TrD.tup _ | with_reducible exact TrD.str _ (by walk_at "side"))
local macro_rules | `(tactic| walk_at "at") => `(tactic| first | assumption | rfl)
local macro_rules | `(tactic| walk_at "rv") => `(tactic| first
  | with_reducible exact add_int | with_reducible exact sub_int | ((with_reducible apply mul_int); walk_at "cmul") | ((with_reducible apply fdiv_int); walk_at "cdiv") | ((with_reducible apply mod_int); walk_at "side") | ((with_reducible apply pow_int); walk_at "cpow") | with_reducible exact neg_int
  | with_reducible exact lt_int | with_reducible exact le_int | with_reducible exact gt_int | with_reducible exact ge_int
  | with_reducible exact is_bl | with_reducible exact not_bl
  | with_reducible exact is_non | with_reducible exact not_non
  | with_reducible exact eq_int | with_reducible exact ne_int | with_reducible exact eq_bl | with_reducible exact ne_bl | with_reducible exact eq_str | with_reducible exact ne_str
  | with_reducible exact ne_scr_nil
  | with_reducible exact eq_int_non | with_reducible exact eq_non_int | with_reducible exact ne_int_non | with_reducible exact ne_non_int | with_reducible exact eq_non | with_reducible exact ne_non
  | ((with_reducible apply ix_lst); walk_at "at") | ((with_reducible apply ix_tup); walk_at "at") | ((with_reducible apply ix_scr); walk_at "at")
  | with_reducible exact len_lst | with_reducible exact len_tup | with_reducible exact len_scr | ((with_reducible apply len_str); walk_at "side")
  | with_reducible exact min2 | with_reducible exact max2 | with_reducible exact all_bls
  | ((with_reducible apply isi_ty); (· walk_at "known"); (· walk_at "kit"))
  | ((with_reducible apply add_lst); walk_at "side") | ((with_reducible apply add_tup); walk_at "side") | ((with_reducible apply add_str); walk_at "side") | ((with_reducible apply mul_wide); walk_at "cmulw")
  | with_reducible exact tuple_lst | with_reducible exact tuple_tup | with_reducible exact list_lst | with_reducible exact list_tup | with_reducible exact int_int | with_reducible exact int_bl | ((with_reducible apply str_int); walk_at "side") | with_reducible exact str_str
  | ((with_reducible apply eq_D); (· walk_at "pur"); (· walk_at "pur"); (· walk_at "dep"); (· walk_at "dep")) | ((with_reducible apply ne_D); (· walk_at "pur"); (· walk_at "pur"); (· walk_at "dep"); (· walk_at "dep")))
local macro_rules | `(tactic| walk_at "cmul") => `(tactic| first | assumption | exact Or.inl ⟨by omega, by omega⟩ | exact Or.inr ⟨by omega, by omega⟩)
local macro_rules | `(tactic| walk_at "cmulw") => `(tactic| fail "wide")
local macro_rules | `(tactic| walk_at "cdiv") => `(tactic| first | assumption | exact ⟨by decide, by decide⟩ | exact cdiv_small (by omega) (by omega))
local macro_rules | `(tactic| walk_at "cpow") => `(tactic| exact ⟨by decide, by decide, by decide⟩)
local macro_rules | `(tactic| walk_at "known") => `(tactic| first | rfl | assumption)
local macro_rules | `(tactic| walk_at "kit") => `(tactic| first | exact kit_any (by walk_at "known") (by simp) | assumption)
local macro_rules | `(tactic| walk_at "ev") => `(tactic| first
  | with_reducible exact ev_int | with_reducible exact ev_bl | with_reducible exact ev_non | with_reducible exact ev_str | with_reducible exact ev_ty | with_reducible exact ev_cls
  | ((with_reducible apply ev_var); rfl)
  | with_reducible exact ea_nil
  | ((with_reducible apply ea_cons); (· walk_at "ev"); (· walk_at "ev"))
  | ((with_reducible apply ev_op); (· walk_at "ev"); (· walk_at "ev"); (· walk_at "rv"))
  | ((with_reducible apply ev_frz); (with_reducible apply ev_op); (· walk_at "ev"); (· walk_at "ev"); (· walk_at "rv"))
  | ((with_reducible apply ev_un); (· walk_at "ev"); (· walk_at "rv"))
  | ((with_reducible apply ev_cb); (· walk_at "ev"); (· walk_at "rv"))
  | ((with_reducible apply ev_frz); (with_reducible apply ev_cb); (· walk_at "ev"); (· walk_at "rv"))
  | ((with_reducible apply ev_call); (· walk_at "ev"); (· walk_at "call"))
  | ((with_reducible apply ev_frz); (with_reducible apply ev_call); (· walk_at "ev"); (· walk_at "call"))
  | ((with_reducible apply eb_test); walk_at "ev") | ((with_reducible apply eb_B); walk_at "ev")
  | ((with_reducible apply eb_not); walk_at "ev")
  | ((with_reducible apply eb_and1); (· walk_at "ev"); (· walk_at "lit")) | ((with_reducible apply eb_and0); (· walk_at "ev"); (· walk_at "lit"); (· walk_at "ev"))
  | ((with_reducible apply eb_and); (· walk_at "ev"); (· intro _; walk_at "ev"))
  | ((with_reducible apply eb_or1); (· walk_at "ev"); (· walk_at "lit")) | ((with_reducible apply eb_or0); (· walk_at "ev"); (· walk_at "lit"); (· walk_at "ev"))
  | ((with_reducible apply eb_or); (· walk_at "ev"); (· intro _; walk_at "ev"))
  | ((with_reducible apply eb_tru); (· walk_at "ev"); (· walk_at "tr"))
  | ((with_reducible apply ev_andB1); (· walk_at "ev"); (· walk_at "lit")) | ((with_reducible apply ev_andB0); (· walk_at "ev"); (· walk_at "lit"); (· walk_at "ev"))
  | ((with_reducible apply ev_andB); (· walk_at "ev"); (· intro _; walk_at "ev"))
  | ((with_reducible apply ev_orB1); (· walk_at "ev"); (· walk_at "lit")) | ((with_reducible apply ev_orB0); (· walk_at "ev"); (· walk_at "lit"); (· walk_at "ev"))
  | ((with_reducible apply ev_orB); (· walk_at "ev"); (· intro _; walk_at "ev"))
  | ((with_reducible apply ev_orT); (· walk_at "ev"); (· walk_at "tr"); (· intro _; walk_at "ev"))
  | ((with_reducible apply ev_andT); (· walk_at "ev"); (· walk_at "tr"); (· intro _; walk_at "ev"))
  | ((with_reducible apply ev_notT); (· walk_at "ev"); (· walk_at "tr"))
  | ((with_reducible apply ev_if1'); (· walk_at "ev"); (· walk_at "lit"); (· walk_at "ev")) | ((with_reducible apply ev_if0'); (· walk_at "ev"); (· walk_at "lit"); (· walk_at "ev"))
  | ((with_reducible apply ev_ifI); (· walk_at "ev"); (· intro _; walk_at "ev"); (· intro _; walk_at "ev"))
  | ((with_reducible apply ev_ifB); (· walk_at "ev"); (· intro _; walk_at "ev"); (· intro _; walk_at "ev"))
  | ((with_reducible apply ev_ifS); (· walk_at "ev"); (· intro _; walk_at "ev"); (· intro _; walk_at "ev"))
  | ((with_reducible apply ev_ifD); (· walk_at "ev"); (· intro _; walk_at "ev"); (· intro _; walk_at "ev"))
  | ((with_reducible apply ev_tup); (· walk_at "ev"); (· walk_at "side"))
  | ((with_reducible apply ev_lst); (· walk_at "ev"); (· walk_at "side"))
  | ((with_reducible apply ev_frz); (with_reducible apply ev_lst); (· walk_at "ev"); (· walk_at "side"))
  | with_reducible exact ev_dnew
  | with_reducible exact eo_none
  | ((with_reducible apply eo_some); walk_at "ev")
  | ((with_reducible apply ev_slL); (· walk_at "ev"); (· walk_at "ev"); (· walk_at "ev"))
  | ((with_reducible apply ev_slT); (· walk_at "ev"); (· walk_at "ev"); (· walk_at "ev"))
  | ((with_reducible apply ev_frz); (with_reducible apply ev_slL); (· walk_at "ev"); (· walk_at "ev"); (· walk_at "ev"))
  | ((with_reducible apply ev_mxD); (· walk_at "ev"); (· walk_at "ev"))
  | ((with_reducible apply ei_seqL); walk_at "ev") | ((with_reducible apply ei_seqT); walk_at "ev") | ((with_reducible apply ei_tup); walk_at "ev")
  | ((with_reducible apply ei_rngU1); (· walk_at "ev"); (· walk_at "side"); (· walk_at "side"))
  | ((with_reducible apply ei_rngU2); (· walk_at "ev"); (· walk_at "rngs"))
  | ((with_reducible apply et_name); walk_at "lt")
  | ((with_reducible apply et_seqT); (· walk_at "ets"); (· rfl)) | ((with_reducible apply et_seqL); (· walk_at "ets"); (· rfl)))
local macro_rules | `(tactic| walk_at "rngs") => `(tactic| exact ⟨by omega, by omega, by omega, by omega⟩)
local macro_rules | `(tactic| walk_at "lt") => `(tactic| first | exact Nat.le_of_ble_eq_true rfl | decide)
local macro_rules | `(tactic| walk_at "ets") => `(tactic| first | with_reducible exact ETs.nil | ((with_reducible apply ETs.cons); (· walk_at "ev"); (· walk_at "ets")))
/-! one statement -/
local macro_rules | `(tactic| walk_at "sd") => `(tactic| first
  | (with_reducible apply sd_seq)
  | ((with_reducible apply sd_setD); (· walk_at "ev"); (· walk_at "lt"))
  | ((with_reducible apply sd_ret); (· walk_at "ev"))
  | ((with_reducible apply sd_if1); (· walk_at "ev"); (· walk_at "lit")) | ((with_reducible apply sd_if0); (· walk_at "ev"); (· walk_at "lit"))
  | ((with_reducible apply sd_if); (· walk_at "ev"))
  | ((with_reducible apply sd_asg); (· walk_at "ev"); (· walk_at "ev"))
  | (with_reducible apply sd_next)
  | (with_reducible apply sd_retN))
local macro_rules | `(tactic| walk_at "weak") => `(tactic| (apply WK.weak; repeat (first | exact WK.nil | apply WK.same | apply WK.un)))
section B
variable {K : PySem.W.Frag} (E : XK) {xs : List D} {out : Out}
local macro_rules | `(tactic| walk_at "call") => `(tactic| first | exact ⟨_, rfl, by walk_at "known", rfl⟩ | exact ⟨_, _, rfl, rfl⟩ | exact ⟨_, rfl, rfl⟩ | exact ⟨_, _, rfl, by assumption, rfl⟩ | exact ⟨_, _, rfl, by assumption, by assumption, rfl⟩ | exact ⟨_, rfl, by assumption, by assumption, rfl⟩)
theorem hl_l_place : ∀ xs out, R_l_place xs out → xs.length = ["_law_cell_here"].length := by rintro _ _ ⟨x, rfl, _⟩; rfl
theorem sd_l_place (h : R_l_place xs out) : SDef K E (t_l_place K) (slots N_l_place.length xs) out := by
  obtain ⟨c, rfl, h0, h1, rfl⟩ := h
  show SD K E (t_l_place K) [.d (.int c), .un, .un] _ _ _ _ _
  unfold t_l_place
  walk_at "sd"
  walk_at "sd"
  walk_at "sd"
  refine sd_rng1 (n := 4) (by walk_at "ev") (by decide) (by decide) (fun i => [.d (.int c), .d (.int (farS c (10 ^ 30) i)), .un]) (by walk_at "weak") (fun i hi => ?_) ?_
  · have hm : (0 : Int) < 10 ^ (30 : Int).toNat := by decide
    have hc : CMul (farS c (10 ^ 30) i) (c + (i : Int)) := .inr ⟨by omega, by omega⟩
    refine ⟨_, by walk_at "ev", ?_⟩
    walk_at "sd"
    walk_at "weak"
  · have q := emod_in c (m := 6) (by decide)
    have hat := atI_ints (xs := placeL c) q.1 q.2
    walk_at "sd"
    exact .inl rfl
theorem hl_l_span : ∀ xs out, R_l_span xs out → xs.length = ["_law_cell_here", "_law_base"].length := by rintro _ _ ⟨x, y, rfl, _⟩; rfl
theorem sd_l_span (h : R_l_span xs out) : SDef K E (t_l_span K) (slots N_l_span.length xs) out := by
  obtain ⟨c, b, rfl, h0, h1, rfl⟩ := h
  show SD K E (t_l_span K) [.d (.int c), .d (.int b), .un, .un] _ _ _ _ _
  unfold t_l_span
  have q := emod_in (c / 976) (m := 4) (by decide)
  have hat := atI_ints (xs := lastL c) q.1 q.2
  walk_at "sd"
  walk_at "sd"
  walk_at "sd"
  walk_at "sd"
  walk_at "sd"
  walk_at "sd"
  · intro h
    have h' : c % 16 = 0 := of_decide_eq_true h
    walk_at "sd"
    have e : spanF c b = (none, some (b + c / 16 % 61 - 30 + (lastL c).getD (c / 976 % 4).toNat 0)) := by unfold spanF; simp only [if_pos h']
    rw [e]; exact .inl rfl
  · intro h
    have h' : ¬ c % 16 = 0 := of_decide_eq_false h
    walk_at "sd"
    walk_at "sd"
    walk_at "sd"
    · intro h2
      have h2' : c % 16 = 1 := of_decide_eq_true h2
      walk_at "sd"
      have e : spanF c b = (some (b + c / 16 % 61 - 30), none) := by unfold spanF; simp only [if_neg h', if_pos h2']
      rw [e]; exact .inl rfl
    · intro h2
      have h2' : ¬ c % 16 = 1 := of_decide_eq_false h2
      walk_at "sd"
      walk_at "sd"
      walk_at "sd"
      · intro h3
        have h3' : c % 160 = 2 := of_decide_eq_true h3
        walk_at "sd"
        have e : spanF c b = (none, none) := by unfold spanF; simp only [if_neg h', if_neg h2', if_pos h3']
        rw [e]; exact .inl rfl
      · intro h3
        have h3' : ¬ c % 160 = 2 := of_decide_eq_false h3
        walk_at "sd"
        walk_at "sd"
        have e : spanF c b = (some (b + c / 16 % 61 - 30), some (b + c / 16 % 61 - 30 + (lastL c).getD (c / 976 % 4).toNat 0)) := by unfold spanF; simp only [if_neg h', if_neg h2', if_neg h3']
        rw [e]; exact .inl rfl
theorem hl_l_bad_span : ∀ xs out, R_l_bad_span xs out → xs.length = ["_law_cell_here"].length := by rintro _ _ ⟨x, rfl, _⟩; rfl
theorem sd_l_bad_span (h : R_l_bad_span xs out) : SDef K E (t_l_bad_span K) (slots N_l_bad_span.length xs) out := by
  obtain ⟨c, rfl, h0, h1, rfl⟩ := h
  show SD K E (t_l_bad_span K) [.d (.int c), .un] _ _ _ _ _
  unfold t_l_bad_span
  have q := emod_in c (m := 16) (by decide)
  have hat := atI_getD (xs := badL c) (d := D.non) q.1 q.2
  walk_at "sd"
  walk_at "sd"
  walk_at "sd"
  walk_at "sd"
  walk_at "sd"
  exact .inl rfl
theorem hl_l_places : ∀ xs out, R_l_places xs out → xs.length = ["_law_one", "_law_other"].length := by rintro _ _ ⟨x, y, rfl, _⟩; rfl
theorem endsOf_len : ∀ l : List (Option Int), (endsOf l).length ≤ 3 * l.length
  | [] => Nat.le_refl _
  | none :: r => by have := endsOf_len r; simp only [endsOf, List.length_cons]; omega
  | some i :: r => by have := endsOf_len r; simp only [endsOf, List.length_cons]; omega
theorem endsOf_snoc : ∀ (l : List (Option Int)) (o : Option Int), endsOf (l ++ [o]) = endsOf l ++ endsOf [o]
  | [], o => by simp [endsOf]
  | none :: r, o => by simp only [List.cons_append, endsOf]; exact endsOf_snoc r o
  | some i :: r, o => by simp only [List.cons_append, endsOf]; rw [endsOf_snoc r o]
def lawL (a b c d : Option Int) (i : Nat) : List Int := [-10 ^ 40, 10 ^ 40] ++ endsOf (([a, b, c, d] : List (Option Int)).take i)
theorem sd_l_places (h : R_l_places xs out) : SDef K E (t_l_places K) (slots N_l_places.length xs) out := by
  obtain ⟨⟨a, b⟩, ⟨c, d⟩, rfl, rfl⟩ := h
  show SD K E (t_l_places K) [.d (dS (a, b)), .d (dS (c, d)), .un, .un] _ _ _ _ _
  unfold t_l_places
  let es : List (Option Int) := [a, b, c, d]
  have L0 : lawL a b c d 0 = [-10 ^ 40, 10 ^ 40] := rfl
  have LS : ∀ i y, es[i]? = some y → lawL a b c d (i + 1) = lawL a b c d i ++ endsOf [y] := fun i y hy => by
    have hy' : ([a, b, c, d] : List (Option Int))[i]? = some y := hy
    unfold lawL; rw [List.take_add_one, hy']; simp only [Option.toList]; rw [endsOf_snoc, List.append_assoc]
  have hlen : ∀ i, (lawL a b c d i).length ≤ 14 := fun i => by
    have h1 := endsOf_len (es.take i)
    have h2 : (es.take i).length ≤ 4 := by rw [List.length_take]; exact Nat.min_le_right _ _
    unfold lawL; simp only [List.length_append, List.length_cons, List.length_nil]; simp only [es] at h1 h2; omega
  walk_at "sd"
  refine sd_setD (x := .lst ((lawL a b c d 0).map .int)) (ev_is (ev_frz (by walk_at "ev")) (by rfl)) (by walk_at "lt") ?_
  walk_at "sd"
  refine sd_for (ys := es) (h := dE) (ei_is (by walk_at "ev") (by rfl)) (fun i => [.d (dS (a, b)), .d (dS (c, d)), .d (.lst ((lawL a b c d i).map .int)), .un]) (by walk_at "weak") (fun i y hy => ?_) ?_
  · have hs := LS i y hy
    generalize lawL a b c d (i + 1) = L1 at *
    have hz := hlen i
    generalize lawL a b c d i = Li at *
    refine ⟨_, by walk_at "ev", ?_⟩
    cases y with
    | none =>
      walk_at "sd"
      walk_at "sd"
      have e : L1 = Li := by rw [hs]; simp [endsOf]
      subst e
      walk_at "weak"
    | some j =>
      walk_at "sd"
      refine sd_setD (x := .lst (L1.map .int)) ?_ (by walk_at "lt") (by walk_at "weak")
      have z := ev_frz (ev_op (K := K) (δ := [S.d (dS (a, b)), .d (dS (c, d)), .d (.lst (Li.map .int)), .d (dE (some j))]) (ta := tVar 2) (tb := tLst (tCons (tOp (rI0 fun i j => .int (i - j)) (tVar 3) (tC (.int 1))) (tCons (tVar 3) (tCons (tOp (rAddU K) (tVar 3) (tC (.int 1))) tNil)))) (by walk_at "ev") (by walk_at "ev") (add_lst (sz (by simp only [List.length_map, List.length_cons, List.length_nil]; omega))))
      subst hs
      exact ev_is z (by rw [List.map_append]; rfl)
  · walk_at "sd"
    exact .inl rfl
theorem hl_l_common_right : ∀ xs out, R_l_common_right xs out → xs.length = ["_law_one", "_law_other"].length := by rintro _ _ ⟨x, y, rfl, _⟩; rfl
def hasO (o : Option (Option Int × Option Int)) (p : Int) : Bool := match o with | none => false | some u => hasS u p
theorem hasO_some {u : Option Int × Option Int} {p : Int} : hasO (some u) p = hasS u p := rfl
theorem hasO_ite {c : Prop} [Decidable c] {u : Option Int × Option Int} {p : Int} : hasO (if c then none else some u) p = (!decide c && hasS u p) := by
  by_cases h : c <;> simp [h, hasO]
theorem comS_has (s t : Option Int × Option Int) (p : Int) : (hasS s p && hasS t p) = hasO (comS s t) p := by
  obtain ⟨a, b⟩ := s
  obtain ⟨c, d⟩ := t
  rw [Bool.eq_iff_iff]
  cases a <;> cases b <;> cases c <;> cases d <;> simp only [comS, maxE, minE, hasO_some, hasO_ite] <;> simp [hasS] <;> omega
theorem comS_ok {s t u : Option Int × Option Int} (hs : spOk s) (ht : spOk t) (h : comS s t = some u) : spOk u := by
  obtain ⟨a, b⟩ := s
  obtain ⟨c, d⟩ := t
  revert h
  cases a <;> cases b <;> cases c <;> cases d <;> simp only [comS, maxE, minE] <;> (try split) <;> intro h <;> cases h <;> simp only [spOk] <;> omega
theorem maxE_comm (a b : Option Int) : maxE a b = maxE b a := by cases a <;> cases b <;> simp [maxE, Int.max_comm]
theorem minE_comm (a b : Option Int) : minE a b = minE b a := by cases a <;> cases b <;> simp [minE, Int.min_comm]
theorem comS_comm (s t : Option Int × Option Int) : comS s t = comS t s := by unfold comS; rw [maxE_comm, minE_comm]
theorem known_dE (o : Option Int) : known (dE o) = true := by cases o <;> rfl
theorem known_dS (s : Option Int × Option Int) : knownAll (dS s) = true := by show [dE s.1, dE s.2].all known = true; simp [known_dE]
theorem isE_dE (o : Option Int) : isE (dE o) = true := by cases o <;> simp [isNon, isTy_int_int, isTy_int_bool]
theorem isSp_ok {s : Option Int × Option Int} (h : spOk s) : isSp (dS s) = true := by
  obtain ⟨a, b⟩ := s
  show (isE (dE a) && isE (dE b) && leE (dE a) (dE b)) = true
  rw [isE_dE, isE_dE]
  cases a <;> cases b <;> simp [leE]
  exact h
theorem pur_dE (o : Option Int) : pur (dE o) = true := by cases o <;> rfl
theorem dep_dE (o : Option Int) : (pd (dE o)).depth = 0 := by cases o <;> simp [pd, PyData.depth]
theorem dep_dE' (o : Option Int) : (pd (dE o)).depth ≤ 64 := by rw [dep_dE]; decide
theorem pur_dO (o : Option (Option Int × Option Int)) : pur (dO o) = true := by
  cases o with
  | none => rfl
  | some s => show (pur (dE s.1) && (pur (dE s.2) && true)) = true; rw [pur_dE, pur_dE]; rfl
theorem dep_dO (o : Option (Option Int × Option Int)) : (pd (dO o)).depth ≤ 64 := by
  cases o with
  | none => simp [pd, PyData.depth]
  | some s => simp [pd, pdL, PyData.depth, PyData.depthAll, dep_dE]
local macro_rules | `(tactic| walk_at "known") => `(tactic| first | rfl | assumption | exact known_dE _ | exact known_dS _)
local macro_rules | `(tactic| walk_at "pur") => `(tactic| first | assumption | exact pur_dE _ | exact pur_dO _ | rfl)
local macro_rules | `(tactic| walk_at "dep") => `(tactic| first | assumption | exact dep_dE' _ | exact dep_dO _ | exact Nat.le_of_ble_eq_true rfl)
local macro_rules | `(tactic| walk_at "call") => `(tactic| first | exact ⟨_, rfl, by walk_at "known", rfl⟩ | exact ⟨_, _, rfl, rfl⟩ | exact ⟨_, rfl, rfl⟩ | exact ⟨_, rfl, by walk_at "known", by walk_at "known", rfl⟩ | exact ⟨_, _, rfl, by assumption, rfl⟩ | exact ⟨_, _, rfl, by assumption, by assumption, rfl⟩ | exact ⟨_, rfl, by assumption, by assumption, rfl⟩)
theorem sd_l_common_right (h : R_l_common_right xs out) : SDef K E (t_l_common_right K) (slots N_l_common_right.length xs) out := by
  obtain ⟨s, t, rfl, hs, ht, rfl⟩ := h
  show SD K E (t_l_common_right K) [.d (dS s), .d (dS t), .un, .un, .un] _ _ _ _ _
  unfold t_l_common_right
  walk_at "sd"
  walk_at "sd"
  walk_at "sd"
  have hc := fun p => comS_has s t p
  have hk := fun u => comS_ok (u := u) hs ht
  generalize comS s t = o at hc hk
  refine sd_for (ys := placesF s t) (h := D.int) (by walk_at "ev") (fun i => [.d (dS s), .d (dS t), .d (dO o), .un, .un]) (by walk_at "weak") (fun i p hp => ?_) ?_
  · refine ⟨_, by walk_at "ev", ?_⟩
    walk_at "sd"
    walk_at "sd"
    cases o with
    | none =>
      refine sd_if0 (by walk_at "ev") ?_ ?_
      · rw [hc]; rfl
      · walk_at "sd"; walk_at "weak"
    | some u =>
      refine sd_if0 (by walk_at "ev") ?_ ?_
      · rw [hc]; simp [hasO]
      · walk_at "sd"; walk_at "weak"
  · cases o with
    | none => walk_at "sd"; exact .inl rfl
    | some u =>
      walk_at "sd"
      have e : isSp (dS u) = true := isSp_ok (hk u rfl)
      rw [e]; exact .inl rfl
end B
end Far
namespace Far
open PySem L2
/-! the words that go over data: ev (expressions, tests, arguments, sources, targets), rv (operators), side (sizes), call (specs) -/
local macro_rules | `(tactic| walk_at "side") => `(tactic| first | assumption | omega | exact sz (Nat.le_of_ble_eq_true rfl) | decide | (simp only [List.length_map, List.length_cons, List.length_nil, List.length_append]; omega))
local macro_rules | `(tactic| walk_at "pur") => `(tactic| first | assumption | rfl)
local macro_rules | `(tactic| walk_at "dep") => `(tactic| first | assumption | exact Nat.le_of_ble_eq_true rfl)
local macro_rules | `(tactic| walk_at "lit") => `(tactic| first | rfl | assumption)
local macro_rules | `(tactic| walk_at "call") => `(tactic| fail "no spec")
local macro_rules | `(tactic| walk_at "tr") => `(tactic| first | with_reducible exact TrD.bl _ | with_reducible exact TrD.int _ | with_reducible exact TrD.non | with_reducible exact TrD.lst _ | with_reducible exact TrD.tup _ | with_reducible exact TrD.str _ (by walk_at "side"))
local macro_rules | `(tactic| walk_at "at") => `(tactic| first | assumption | rfl)
local macro_rules | `(tactic| walk_at "rv") => `(tactic| first
  | with_reducible exact add_int | with_reducible exact sub_int | ((with_reducible apply mul_int); walk_at "cmul") | ((with_reducible apply fdiv_int); walk_at "cdiv") | ((with_reducible apply mod_int); walk_at "side") | ((with_reducible apply pow_int); walk_at "cpow") | with_reducible exact neg_int
  | with_reducible exact lt_int | with_reducible exact le_int | with_reducible exact gt_int | with_reducible exact ge_int
  | with_reducible exact is_bl | with_reducible exact not_bl
  | with_reducible exact is_non | with_reducible exact not_non
  | with_reducible exact eq_int | with_reducible exact ne_int | with_reducible exact eq_bl | with_reducible exact ne_bl | with_reducible exact eq_str | with_reducible exact ne_str
  | with_reducible exact ne_scr_nil
  | with_reducible exact eq_int_non | with_reducible exact eq_non_int | with_reducible exact ne_int_non | with_reducible exact ne_non_int | with_reducible exact eq_non | with_reducible exact ne_non
  | ((with_reducible apply ix_lst); walk_at "at") | ((with_reducible apply ix_tup); walk_at "at") | ((with_reducible apply ix_scr); walk_at "at")
  | with_reducible exact len_lst | with_reducible exact len_tup | with_reducible exact len_scr | ((with_reducible apply len_str); walk_at "side")
  | with_reducible exact min2 | with_reducible exact max2 | with_reducible exact all_bls
  | ((with_reducible apply isi_ty); (· walk_at "known"); (· walk_at "kit"))
  | ((with_reducible apply add_lst); walk_at "side") | ((with_reducible apply add_tup); walk_at "side") | ((with_reducible apply add_str); walk_at "side") | ((with_reducible apply mul_wide); walk_at "cmulw")
  | with_reducible exact tuple_lst | with_reducible exact tuple_tup | with_reducible exact list_lst | with_reducible exact list_tup | with_reducible exact int_int | with_reducible exact int_bl | ((with_reducible apply str_int); walk_at "side") | with_reducible exact str_str
  | ((with_reducible apply eq_D); (· walk_at "pur"); (· walk_at "pur"); (· walk_at "dep"); (· walk_at "dep")) | ((with_reducible apply ne_D); (· walk_at "pur"); (· walk_at "pur"); (· walk_at "dep"); (· walk_at "dep")))
local macro_rules | `(tactic| walk_at "cmul") => `(tactic| first | assumption | exact Or.inl ⟨by omega, by omega⟩ | exact Or.inr ⟨by omega, by omega⟩)
local macro_rules | `(tactic| walk_at "cmulw") => `(tactic| fail "wide")
local macro_rules | `(tactic| walk_at "cdiv") => `(tactic| first | assumption | exact ⟨by decide, by decide⟩ | exact cdiv_small (by omega) (by omega))
local macro_rules | `(tactic| walk_at "cpow") => `(tactic| exact ⟨by decide, by decide, by decide⟩)
local macro_rules | `(tactic| walk_at "known") => `(tactic| first | rfl | assumption)
local macro_rules | `(tactic| walk_at "kit") => `(tactic| first | exact kit_any (by walk_at "known") (by simp) | assumption)
local macro_rules | `(tactic| walk_at "ev") => `(tactic| first
  | with_reducible exact ev_int | with_reducible exact ev_bl | with_reducible exact ev_non | with_reducible exact ev_str | with_reducible exact ev_ty | with_reducible exact ev_cls
  | ((with_reducible apply ev_var); rfl)
  | with_reducible exact ea_nil
  | ((with_reducible apply ea_cons); (· walk_at "ev"); (· walk_at "ev"))
  | ((with_reducible apply ev_op); (· walk_at "ev"); (· walk_at "ev"); (· walk_at "rv"))
  | ((with_reducible apply ev_frz); (with_reducible apply ev_op); (· walk_at "ev"); (· walk_at "ev"); (· walk_at "rv"))
  | ((with_reducible apply ev_un); (· walk_at "ev"); (· walk_at "rv"))
  | ((with_reducible apply ev_cb); (· walk_at "ev"); (· walk_at "rv"))
  | ((with_reducible apply ev_frz); (with_reducible apply ev_cb); (· walk_at "ev"); (· walk_at "rv"))
  | ((with_reducible apply ev_call); (· walk_at "ev"); (· walk_at "call"))
  | ((with_reducible apply ev_frz); (with_reducible apply ev_call); (· walk_at "ev"); (· walk_at "call"))
  | ((with_reducible apply eb_test); walk_at "ev") | ((with_reducible apply eb_B); walk_at "ev")
  | ((with_reducible apply eb_not); walk_at "ev")
  | ((with_reducible apply eb_and1); (· walk_at "ev"); (· walk_at "lit")) | ((with_reducible apply eb_and0); (· walk_at "ev"); (· walk_at "lit"); (· walk_at "ev"))
  | ((with_reducible apply eb_and); (· walk_at "ev"); (· intro _; walk_at "ev"))
  | ((with_reducible apply eb_or1); (· walk_at "ev"); (· walk_at "lit")) | ((with_reducible apply eb_or0); (· walk_at "ev"); (· walk_at "lit"); (· walk_at "ev"))
  | ((with_reducible apply eb_or); (· walk_at "ev"); (· intro _; walk_at "ev"))
  | ((with_reducible apply eb_tru); (· walk_at "ev"); (· walk_at "tr"))
  | ((with_reducible apply ev_andB1); (· walk_at "ev"); (· walk_at "lit")) | ((with_reducible apply ev_andB0); (· walk_at "ev"); (· walk_at "lit"); (· walk_at "ev"))
  | ((with_reducible apply ev_andB); (· walk_at "ev"); (· intro _; walk_at "ev"))
  | ((with_reducible apply ev_orB1); (· walk_at "ev"); (· walk_at "lit")) | ((with_reducible apply ev_orB0); (· walk_at "ev"); (· walk_at "lit"); (· walk_at "ev"))
  | ((with_reducible apply ev_orB); (· walk_at "ev"); (· intro _; walk_at "ev"))
  | ((with_reducible apply ev_orT); (· walk_at "ev"); (· walk_at "tr"); (· intro _; walk_at "ev"))
  | ((with_reducible apply ev_andT); (· walk_at "ev"); (· walk_at "tr"); (· intro _; walk_at "ev"))
  | ((with_reducible apply ev_notT); (· walk_at "ev"); (· walk_at "tr"))
  | ((with_reducible apply ev_if1'); (· walk_at "ev"); (· walk_at "lit"); (· walk_at "ev")) | ((with_reducible apply ev_if0'); (· walk_at "ev"); (· walk_at "lit"); (· walk_at "ev"))
  | ((with_reducible apply ev_ifI); (· walk_at "ev"); (· intro _; walk_at "ev"); (· intro _; walk_at "ev"))
  | ((with_reducible apply ev_ifB); (· walk_at "ev"); (· intro _; walk_at "ev"); (· intro _; walk_at "ev"))
  | ((with_reducible apply ev_ifS); (· walk_at "ev"); (· intro _; walk_at "ev"); (· intro _; walk_at "ev"))
  | ((with_reducible apply ev_ifD); (· walk_at "ev"); (· intro _; walk_at "ev"); (· intro _; walk_at "ev"))
  | ((with_reducible apply ev_tup); (· walk_at "ev"); (· walk_at "side"))
  | ((with_reducible apply ev_lst); (· walk_at "ev"); (· walk_at "side"))
  | ((with_reducible apply ev_frz); (with_reducible apply ev_lst); (· walk_at "ev"); (· walk_at "side"))
  | with_reducible exact ev_dnew
  | with_reducible exact eo_none
  | ((with_reducible apply eo_some); walk_at "ev")
  | ((with_reducible apply ev_slL); (· walk_at "ev"); (· walk_at "ev"); (· walk_at "ev"))
  | ((with_reducible apply ev_slT); (· walk_at "ev"); (· walk_at "ev"); (· walk_at "ev"))
  | ((with_reducible apply ev_frz); (with_reducible apply ev_slL); (· walk_at "ev"); (· walk_at "ev"); (· walk_at "ev"))
  | ((with_reducible apply ev_mxD); (· walk_at "ev"); (· walk_at "ev"))
  | ((with_reducible apply ei_seqL); walk_at "ev") | ((with_reducible apply ei_seqT); walk_at "ev") | ((with_reducible apply ei_tup); walk_at "ev")
  | ((with_reducible apply ei_rngU1); (· walk_at "ev"); (· walk_at "side"); (· walk_at "side"))
  | ((with_reducible apply ei_rngU2); (· walk_at "ev"); (· walk_at "rngs"))
  | ((with_reducible apply et_name); walk_at "lt")
  | ((with_reducible apply et_seqT); (· walk_at "ets"); (· rfl)) | ((with_reducible apply et_seqL); (· walk_at "ets"); (· rfl)))
local macro_rules | `(tactic| walk_at "rngs") => `(tactic| exact ⟨by omega, by omega, by omega, by omega⟩)
local macro_rules | `(tactic| walk_at "lt") => `(tactic| first | exact Nat.le_of_ble_eq_true rfl | decide)
local macro_rules | `(tactic| walk_at "ets") => `(tactic| first | with_reducible exact ETs.nil | ((with_reducible apply ETs.cons); (· walk_at "ev"); (· walk_at "ets")))
/-! one statement -/
local macro_rules | `(tactic| walk_at "sd") => `(tactic| first
  | (with_reducible apply sd_seq)
  | ((with_reducible apply sd_setD); (· walk_at "ev"); (· walk_at "lt"))
  | ((with_reducible apply sd_ret); (· walk_at "ev"))
  | ((with_reducible apply sd_if1); (· walk_at "ev"); (· walk_at "lit")) | ((with_reducible apply sd_if0); (· walk_at "ev"); (· walk_at "lit"))
  | ((with_reducible apply sd_if); (· walk_at "ev"))
  | ((with_reducible apply sd_asg); (· walk_at "ev"); (· walk_at "ev"))
  | (with_reducible apply sd_next)
  | (with_reducible apply sd_retN))
local macro_rules | `(tactic| walk_at "weak") => `(tactic| (apply WK.weak; repeat (first | exact WK.nil | apply WK.same | apply WK.un)))
theorem law_asks {K : PySem.W.Frag} {H : Hp} {a : Addr} {ns : List Int} {Q : VK} {E : XK} (hl : ns.length ≤ 63) (hS : SqL K H a (ns.map V.int)) (q : ∀ H', Q (.bl true) H') : spD K R_law [.ref a] H Q E :=
  ⟨H, [scrD ns], _, .refl H, .cons (.scr hS (rp_ints (fun i => i) ns)) .nil, ⟨ns, rfl, hl, rfl⟩, fun v s G' H' e _ _ _ _ k => by
    cases e; obtain ⟨v', e, r⟩ := k; cases e; cases r; exact q H', fun _ _ _ _ _ _ e => nomatch e⟩
section C
variable {K : PySem.W.Frag} (E : XK) {xs : List D} {out : Out}
local macro_rules | `(tactic| walk_at "known") => `(tactic| first | assumption | exact known_dE _ | exact known_dS _ | rfl)
local macro_rules | `(tactic| walk_at "pur") => `(tactic| first | assumption | exact pur_dE _ | exact pur_dO _ | rfl)
local macro_rules | `(tactic| walk_at "dep") => `(tactic| first | assumption | exact dep_dE' _ | exact dep_dO _ | exact Nat.le_of_ble_eq_true rfl)
local macro_rules | `(tactic| walk_at "call") => `(tactic| first | exact ⟨_, _, rfl, by assumption, rfl⟩ | exact ⟨_, rfl, (cell_pos _ _).1, (cell_pos _ _).2, rfl⟩ | exact ⟨_, _, rfl, (cell_pos _ _).1, (cell_pos _ _).2, rfl⟩ | exact ⟨_, _, rfl, rfl⟩ | exact ⟨_, rfl, by walk_at "known", by walk_at "known", rfl⟩ | exact ⟨_, rfl, by walk_at "known", rfl⟩ | exact ⟨_, rfl, rfl⟩ | exact ⟨_, _, rfl, by assumption, by assumption, rfl⟩)
theorem hl_law : ∀ xs out, R_law xs out → xs.length = ["_law_script"].length := by rintro _ _ ⟨x, rfl, _⟩; rfl
theorem lastL_pos (c : Int) : 0 ≤ (lastL c).getD (c / 976 % 4).toNat 0 := by
  have h : ∀ x ∈ lastL c, 0 ≤ x := by
    intro x hx
    simp only [lastL, List.mem_cons, List.mem_nil_iff, or_false] at hx
    rcases hx with rfl | rfl | rfl | rfl <;> omega
  rw [List.getD_eq_getElem?_getD]
  cases e : (lastL c)[(c / 976 % 4).toNat]? with
  | none => exact Int.le_refl 0
  | some x => exact h x (List.mem_of_getElem? e)
theorem spanF_ok (c b : Int) : spOk (spanF c b) := by
  have := lastL_pos c
  unfold spanF
  dsimp only
  split
  · trivial
  · split
    · trivial
    · split
      · trivial
      · show _ ≤ _; omega
theorem mod16 {c : Int} : ∃ j : Nat, j < 16 ∧ c % 16 = j := ⟨(c % 16).toNat, by omega, by omega⟩
theorem bad_sp (c : Int) : isSp (bad c) = false ∧ known (bad c) = true ∧ knownAll (bad c) = true := by
  obtain ⟨j, hj, e⟩ := mod16 (c := c)
  unfold bad
  rw [e, Int.toNat_natCast]
  match j, hj with
  | 0, _ => exact ⟨rfl, rfl, rfl⟩
  | 1, _ => exact ⟨rfl, rfl, rfl⟩
  | 2, _ => exact ⟨rfl, rfl, rfl⟩
  | 3, _ => exact ⟨rfl, rfl, rfl⟩
  | 4, _ => exact ⟨rfl, rfl, rfl⟩
  | 5, _ => exact ⟨rfl, rfl, rfl⟩
  | 6, _ => exact ⟨by simp [badL, isSp, leE], rfl, rfl⟩
  | 7, _ => exact ⟨by simp [badL, isSp, isNon, isTy_bl_int, isTy_bl_bool], rfl, rfl⟩
  | 8, _ => exact ⟨by simp [badL, isSp, isNon, isTy_bl_int, isTy_bl_bool], rfl, rfl⟩
  | 9, _ => exact ⟨by simp [badL, isSp, isNon, isTy_str_int], rfl, rfl⟩
  | 10, _ => exact ⟨by simp [badL, isSp, isNon, isTy_str_int], rfl, rfl⟩
  | 11, _ => exact ⟨rfl, rfl, rfl⟩
  | 12, _ => exact ⟨rfl, rfl, rfl⟩
  | 13, _ => exact ⟨by simp [badL, isSp, isNon, isTy_tup_int], rfl, rfl⟩
  | 14, _ => exact ⟨by simp [badL, isSp, leE], rfl, rfl⟩
  | 15, _ => exact ⟨by simp [badL, isSp, leE]; intros; omega, rfl, rfl⟩
  | n + 16, h => exact absurd h (by omega)
theorem sd_law (h : R_law xs out) : SDef K E (t_law K) (slots N_law.length xs) out := by
  obtain ⟨ns, rfl, hl, rfl⟩ := h
  show SD K E (t_law K) [.d (scrD ns), .un, .un, .un, .un, .un, .un, .un, .un, .un] _ _ _ _ _
  unfold t_law
  walk_at "sd"
  have hmax : max 1 (min ((List.map D.int ns).length : Int) 63) ≤ 63 := by omega
  refine sd_rng1 (by walk_at "ev") (by omega) (by omega) (fun _ => [.d (scrD ns), .un, .un, .un, .un, .un, .un, .un, .un, .un]) (by walk_at "weak") (fun k hk => ?_) ?_
  · refine ⟨_, by walk_at "ev", ?_⟩
    walk_at "sd"
    walk_at "sd"
    generalize hb : place (cell ns (3 * (k : Int))) = base
    walk_at "sd"
    walk_at "sd"
    walk_at "sd"
    walk_at "sd"
    have hs1 := spanF_ok (cell ns (3 * (k : Int) + 1)) base
    have hs2 := spanF_ok (cell ns (3 * (k : Int) + 2)) base
    generalize spanF (cell ns (3 * (k : Int) + 1)) base = one at *
    generalize spanF (cell ns (3 * (k : Int) + 2)) base = other at *
    obtain ⟨b1, b2, b3⟩ := bad_sp (cell ns (3 * (k : Int)))
    walk_at "sd"
    refine sd_if0 (by walk_at "ev") ?_ ?_
    · rw [isSp_ok hs1, b1]; rfl
    walk_at "sd"
    -- a thing
    walk_at "sd"
    have q := emod_in (cell ns (3 * (k : Int) + 1)) (m := 8) (by decide)
    have hat := atI_getD (xs := [D.int base, .bl true, .non, .str "5", .tup [.int 5], .bl false, .int (-base), .lst [.int 3]]) (d := D.non) q.1 q.2
    have hkn : ∀ j : Nat, known (([D.int base, .bl true, .non, .str "5", .tup [.int 5], .bl false, .int (-base), .lst [.int 3]] : List D).getD j .non) = true := fun j => by
      rw [List.getD_eq_getElem?_getD]
      cases e : ([D.int base, .bl true, .non, .str "5", .tup [.int 5], .bl false, .int (-base), .lst [.int 3]] : List D)[j]? with
      | none => rfl
      | some x => exact known_get (xs := [D.int base, .bl true, .non, .str "5", .tup [.int 5], .bl false, .int (-base), .lst [.int 3]]) rfl (List.mem_of_getElem? e)
    walk_at "sd"
    have hk1 := hkn (cell ns (3 * (k : Int) + 1) % 8).toNat
    generalize ([D.int base, .bl true, .non, .str "5", .tup [.int 5], .bl false, .int (-base), .lst [.int 3]] : List D).getD (cell ns (3 * (k : Int) + 1) % 8).toNat .non = thing at *
    walk_at "sd"
    walk_at "sd"
    walk_at "sd"
    refine sd_if0 (by walk_at "ev") ?_ ?_
    · rw [decide_eq_true (rfl : isPl thing = _)]; rfl
    walk_at "sd"
    -- has, at some places
    walk_at "sd"
    refine sd_for (ys := placesF one other) (h := D.int) (by walk_at "ev") (fun i => [.d (scrD ns), .d (.int (k : Int)), .d (.int base), .d (dS one), .d (dS other), .un, .un, .un, .un, .un]) (by walk_at "weak") (fun i p hp => ?_) ?_
    · refine ⟨_, by walk_at "ev", ?_⟩
      refine sd_if0 (by walk_at "ev") ?_ ?_
      · simp
      walk_at "sd"
      walk_at "weak"
    -- size_of
    walk_at "sd"
    walk_at "sd"
    walk_at "sd"
    refine sd_if0 (by walk_at "ev") ?_ ?_
    · rw [eqD_self (pur_dE _)]
      cases sizeS one <;> simp [isTy_int_bool, isTy_non_bool]
    walk_at "sd"
    walk_at "sd"
    walk_at "sd"
    walk_at "sd"
    generalize (10 : Int) ^ Int.toNat 30 + cell ns (3 * (k : Int) + 1) = far
    refine sd_if0 (eb_test (ev_op (x := .int (base + far - (base - far) + 1)) (ev_call (ea_cons (x := dS (some (base - far), some (base + far))) (by walk_at "ev") ea_nil) ⟨(some (base - far), some (base + far)), rfl, rfl⟩) (by walk_at "ev") (by walk_at "rv"))) ?_ ?_
    · simp; omega
    walk_at "sd"
    refine sd_if0 (by walk_at "ev") ?_ ?_
    · rw [comS_comm other one, eqD_self (pur_dO _)]; rfl
    walk_at "sd"
    walk_at "weak"
  · walk_at "sd"
    exact .inl rfl
end C
end Far
namespace Far
open PySem L2 PyProof.Rows
def topS (i : Nat) : Stmt := PySem.Challenge.pw_farrows_k11_spans.main.body.getD i (.Pass ⟨0, 0, 0, 0⟩)
abbrev s_is_place : Stmt := topS 1
theorem sc_is_place : FnScope N_is_place ["thing"] (defScope s_is_place) := ⟨rfl, rfl, rfl, by decide +kernel, rfl, by decide +kernel, by decide +kernel⟩
abbrev s_is_span : Stmt := topS 2
theorem sc_is_span : FnScope N_is_span ["thing"] (defScope s_is_span) := ⟨rfl, rfl, rfl, by decide +kernel, rfl, by decide +kernel, by decide +kernel⟩
abbrev s_has : Stmt := topS 3
theorem sc_has : FnScope N_has ["span", "place"] (defScope s_has) := ⟨rfl, rfl, rfl, by decide +kernel, rfl, by decide +kernel, by decide +kernel⟩
abbrev s_size_of : Stmt := topS 4
theorem sc_size_of : FnScope N_size_of ["span"] (defScope s_size_of) := ⟨rfl, rfl, rfl, by decide +kernel, rfl, by decide +kernel, by decide +kernel⟩
abbrev s_common : Stmt := topS 5
theorem sc_common : FnScope N_common ["one", "other"] (defScope s_common) := ⟨rfl, rfl, rfl, by decide +kernel, rfl, by decide +kernel, by decide +kernel⟩
abbrev s_l_cell : Stmt := topS 7
theorem sc_l_cell : FnScope N_l_cell ["_law_script", "_law_k"] (defScope s_l_cell) := ⟨rfl, rfl, rfl, by decide +kernel, rfl, by decide +kernel, by decide +kernel⟩
abbrev s_l_place : Stmt := topS 8
theorem sc_l_place : FnScope N_l_place ["_law_cell_here"] (defScope s_l_place) := ⟨rfl, rfl, rfl, by decide +kernel, rfl, by decide +kernel, by decide +kernel⟩
abbrev s_l_span : Stmt := topS 9
theorem sc_l_span : FnScope N_l_span ["_law_cell_here", "_law_base"] (defScope s_l_span) := ⟨rfl, rfl, rfl, by decide +kernel, rfl, by decide +kernel, by decide +kernel⟩
abbrev s_l_bad_span : Stmt := topS 10
theorem sc_l_bad_span : FnScope N_l_bad_span ["_law_cell_here"] (defScope s_l_bad_span) := ⟨rfl, rfl, rfl, by decide +kernel, rfl, by decide +kernel, by decide +kernel⟩
abbrev s_l_in : Stmt := topS 11
theorem sc_l_in : FnScope N_l_in ["_law_span_here", "_law_place_here"] (defScope s_l_in) := ⟨rfl, rfl, rfl, by decide +kernel, rfl, by decide +kernel, by decide +kernel⟩
abbrev s_l_size : Stmt := topS 12
theorem sc_l_size : FnScope N_l_size ["_law_span_here"] (defScope s_l_size) := ⟨rfl, rfl, rfl, by decide +kernel, rfl, by decide +kernel, by decide +kernel⟩
abbrev s_l_places : Stmt := topS 13
theorem sc_l_places : FnScope N_l_places ["_law_one", "_law_other"] (defScope s_l_places) := ⟨rfl, rfl, rfl, by decide +kernel, rfl, by decide +kernel, by decide +kernel⟩
abbrev s_l_common_right : Stmt := topS 14
theorem sc_l_common_right : FnScope N_l_common_right ["_law_one", "_law_other"] (defScope s_l_common_right) := ⟨rfl, rfl, rfl, by decide +kernel, rfl, by decide +kernel, by decide +kernel⟩
abbrev s_law : Stmt := topS 15
theorem sc_law : FnScope N_law ["_law_script"] (defScope s_law) := ⟨rfl, rfl, rfl, by decide +kernel, rfl, by decide +kernel, by decide +kernel⟩
structure Txt (K : PySem.W.Frag) (mg : Str → Option Value) where
  a_is_place : Addr
  d_is_place : FuncData
  F_is_place : Fun K "is_place" "is_place" s_is_place a_is_place d_is_place
  b_is_place : Binds K d_is_place ["thing"] []
  g_is_place : mg "is_place" = some (.ref a_is_place)
  a_is_span : Addr
  d_is_span : FuncData
  F_is_span : Fun K "is_span" "is_span" s_is_span a_is_span d_is_span
  b_is_span : Binds K d_is_span ["thing"] []
  g_is_span : mg "is_span" = some (.ref a_is_span)
  a_has : Addr
  d_has : FuncData
  F_has : Fun K "has" "has" s_has a_has d_has
  b_has : Binds K d_has ["span", "place"] []
  g_has : mg "has" = some (.ref a_has)
  a_size_of : Addr
  d_size_of : FuncData
  F_size_of : Fun K "size_of" "size_of" s_size_of a_size_of d_size_of
  b_size_of : Binds K d_size_of ["span"] []
  g_size_of : mg "size_of" = some (.ref a_size_of)
  a_common : Addr
  d_common : FuncData
  F_common : Fun K "common" "common" s_common a_common d_common
  b_common : Binds K d_common ["one", "other"] []
  g_common : mg "common" = some (.ref a_common)
  a_l_cell : Addr
  d_l_cell : FuncData
  F_l_cell : Fun K "_law_cell" "_law_cell" s_l_cell a_l_cell d_l_cell
  b_l_cell : Binds K d_l_cell ["_law_script", "_law_k"] []
  g_l_cell : mg "_law_cell" = some (.ref a_l_cell)
  a_l_place : Addr
  d_l_place : FuncData
  F_l_place : Fun K "_law_place" "_law_place" s_l_place a_l_place d_l_place
  b_l_place : Binds K d_l_place ["_law_cell_here"] []
  g_l_place : mg "_law_place" = some (.ref a_l_place)
  a_l_span : Addr
  d_l_span : FuncData
  F_l_span : Fun K "_law_span" "_law_span" s_l_span a_l_span d_l_span
  b_l_span : Binds K d_l_span ["_law_cell_here", "_law_base"] []
  g_l_span : mg "_law_span" = some (.ref a_l_span)
  a_l_bad_span : Addr
  d_l_bad_span : FuncData
  F_l_bad_span : Fun K "_law_bad_span" "_law_bad_span" s_l_bad_span a_l_bad_span d_l_bad_span
  b_l_bad_span : Binds K d_l_bad_span ["_law_cell_here"] []
  g_l_bad_span : mg "_law_bad_span" = some (.ref a_l_bad_span)
  a_l_in : Addr
  d_l_in : FuncData
  F_l_in : Fun K "_law_in" "_law_in" s_l_in a_l_in d_l_in
  b_l_in : Binds K d_l_in ["_law_span_here", "_law_place_here"] []
  g_l_in : mg "_law_in" = some (.ref a_l_in)
  a_l_size : Addr
  d_l_size : FuncData
  F_l_size : Fun K "_law_size" "_law_size" s_l_size a_l_size d_l_size
  b_l_size : Binds K d_l_size ["_law_span_here"] []
  g_l_size : mg "_law_size" = some (.ref a_l_size)
  a_l_places : Addr
  d_l_places : FuncData
  F_l_places : Fun K "_law_places" "_law_places" s_l_places a_l_places d_l_places
  b_l_places : Binds K d_l_places ["_law_one", "_law_other"] []
  g_l_places : mg "_law_places" = some (.ref a_l_places)
  a_l_common_right : Addr
  d_l_common_right : FuncData
  F_l_common_right : Fun K "_law_common_right" "_law_common_right" s_l_common_right a_l_common_right d_l_common_right
  b_l_common_right : Binds K d_l_common_right ["_law_one", "_law_other"] []
  g_l_common_right : mg "_law_common_right" = some (.ref a_l_common_right)
  a_law : Addr
  d_law : FuncData
  F_law : Fun K "law" "law" s_law a_law d_law
  b_law : Binds K d_law ["_law_script"] []
  g_law : mg "law" = some (.ref a_law)
  n_all : mg "all" = none
  n_bool : mg "bool" = none
  n_int : mg "int" = none
  n_isinstance : mg "isinstance" = none
  n_len : mg "len" = none
  n_max : mg "max" = none
  n_min : mg "min" = none
  n_range : mg "range" = none
  n_tuple : mg "tuple" = none
section
variable {P : Program} {w : World} {K : PySem.W.Frag} {mg : Str → Option Value} {base : Heap}
theorem ok_is_place (T : Txt K mg) : FnOk P w K mg base CX0 1 T.a_is_place T.d_is_place ["thing"] (spD K R_is_place) :=
  ok_def (t := t_is_place K) T.F_is_place sc_is_place hl_is_place (fun cdv A outer s H E hr =>
    (pss_one (ps_ret (pe_andT (pe_callB call_isi (by rfl) T.n_isinstance (by decide +kernel) (pa_cons (pv 0) (pa_cons (pe_bltn (v := .ty "int") (by rfl) T.n_int (by decide +kernel) rfl) pa_nil))) (pe_one (pe_notT (pe_callB call_isi (by rfl) T.n_isinstance (by decide +kernel) (pa_cons (pv 0) (pa_cons (pe_bltn (v := .ty "bool") (by rfl) T.n_bool (by decide +kernel) rfl) pa_nil))))))))) (fun E xs out h => sd_is_place E h)
theorem ok_is_span (T : Txt K mg) : FnOk P w K mg base CX0 2 T.a_is_span T.d_is_span ["thing"] (spD K R_is_span) :=
  ok_def (t := t_is_span K) T.F_is_span sc_is_span hl_is_span (fun cdv A outer s H E hr =>
    (pss_cons (ps_if (PW.pt (pw_or (pt_not (pt_truth (pe_callB call_isi (by rfl) T.n_isinstance (by decide +kernel) (pa_cons (pv 0) (pa_cons (pe_bltn (v := .ty "tuple") (by rfl) T.n_tuple (by decide +kernel) rfl) pa_nil))) (by intro _; rfl))) (pw_or1 (pt_cmpR (op_neU hr.units) (pe_callB call_len (by rfl) T.n_len (by decide +kernel) (pa_cons (pv 0) pa_nil)) pe_int (nomark _)))))
    (pss_one (ps_ret pe_bl)) pss_nil)
    (pss_cons (ps_if (pt_not (pt_truth (pe_callB (cr_all rfl) (by rfl) T.n_all (by decide +kernel) (pa_cons (pe_lc (own := [("end", 1)]) (by rfl) sc_is_span.nd (pi_seq (pv 0)) (blkOk_by (own := [("end", 1)]) (N := N_is_span) (sc := defScope s_is_span) (by decide +kernel)) (fun _ _ _ _ _ => (pg_name (i := 1) sc_is_span.nd rfl (by first | exact Or.inl rfl | exact Or.inr rfl))) (fun _ _ _ _ _ => pts_nil) (fun _ _ _ _ _ => (pe_orT (pe_cmpR op_isN1 (pv 1) pe_non (nomark _)) (pe_one (pe_call (ok_is_place T) (hr.mono (by decide)) (by rfl) T.g_is_place T.F_is_place.kp T.b_is_place .nil pass0 (pa_cons (pv 1) pa_nil)))))) pa_nil)) (by intro _; rfl)))
    (pss_one (ps_ret pe_bl)) pss_nil)
    (pss_one (ps_ret (pe_orT (pe_cmpR op_isN1 (pe_ix ix_seq (pv 0) pe_int (fun _ _ => rfl)) pe_non (nomark _)) (pe_orT (pe_cmpR op_isN1 (pe_ix ix_seq (pv 0) pe_int (fun _ _ => rfl)) pe_non (nomark _)) (pe_one (pe_cmpR op_le (pe_ix ix_seq (pv 0) pe_int (fun _ _ => rfl)) (pe_ix ix_seq (pv 0) pe_int (fun _ _ => rfl)) (nomark _)))))))))) (fun E xs out h => sd_is_span E h)
theorem ok_has (T : Txt K mg) : FnOk P w K mg base CX0 1 T.a_has T.d_has ["span", "place"] (spD K R_has) :=
  ok_def (t := t_has K) T.F_has sc_has hl_has (fun cdv A outer s H E hr =>
    (pss_cons (ps_asg (pv 0) (pg_seq rfl (pgs_cons (pg_name (i := 2) sc_has.nd rfl (by first | exact Or.inl rfl | exact Or.inr rfl)) (pgs_cons (pg_name (i := 3) sc_has.nd rfl (by first | exact Or.inl rfl | exact Or.inr rfl)) pgs_nil))))
    (pss_one (ps_ret (pe_andT (pe_orT (pe_cmpR op_isN1 (pv 2) pe_non (nomark _)) (pe_one (pe_cmpR op_le (pv 2) (pv 1) (nomark _)))) (pe_one (pe_orT (pe_cmpR op_isN1 (pv 3) pe_non (nomark _)) (pe_one (pe_cmpR op_le (pv 1) (pv 3) (nomark _)))))))))) (fun E xs out h => sd_has E h)
theorem ok_size_of (T : Txt K mg) : FnOk P w K mg base CX0 1 T.a_size_of T.d_size_of ["span"] (spD K R_size_of) :=
  ok_def (t := t_size_of K) T.F_size_of sc_size_of hl_size_of (fun cdv A outer s H E hr =>
    (pss_cons (ps_asg (pv 0) (pg_seq rfl (pgs_cons (pg_name (i := 1) sc_size_of.nd rfl (by first | exact Or.inl rfl | exact Or.inr rfl)) (pgs_cons (pg_name (i := 2) sc_size_of.nd rfl (by first | exact Or.inl rfl | exact Or.inr rfl)) pgs_nil))))
    (pss_cons (ps_if (PW.pt (pw_or (pt_cmpR op_isN1 (pv 1) pe_non (nomark _)) (pw_or1 (pt_cmpR op_isN1 (pv 2) pe_non (nomark _)))))
    (pss_one (ps_ret pe_non)) pss_nil)
    (pss_one (ps_ret (pe_op op_addU (pe_op op_sub (pv 2) (pv 1)) pe_int)))))) (fun E xs out h => sd_size_of E h)
theorem ok_common (T : Txt K mg) : FnOk P w K mg base CX0 1 T.a_common T.d_common ["one", "other"] (spD K R_common) :=
  ok_def (t := t_common K) T.F_common sc_common hl_common (fun cdv A outer s H E hr =>
    (pss_cons (ps_setLc (i := 2) (own := [("span", 3)]) (by rfl) sc_common.nd rfl rfl (sw_true rfl rfl rfl (by decide +kernel)) (pi_tup (pe_tup (pa_cons (pv 0) (pa_cons (pv 1) pa_nil)))) (blkOk_by (own := [("span", 3)]) (N := N_common) (sc := defScope s_common) (by decide +kernel)) (fun _ _ _ _ _ => (pg_name (i := 3) sc_common.nd rfl (by first | exact Or.inl rfl | exact Or.inr rfl))) (fun _ _ _ _ _ => (pts_one (pt_cmpR op_notN1 (pe_ix ix_seq (pv 3) pe_int (fun _ _ => rfl)) pe_non (nomark _)))) (fun _ _ _ _ _ => (pe_ix ix_seq (pv 3) pe_int (fun _ _ => rfl))))
    (pss_cons (ps_setLc (i := 4) (own := [("span", 3)]) (by rfl) sc_common.nd rfl rfl (sw_true rfl rfl rfl (by decide +kernel)) (pi_tup (pe_tup (pa_cons (pv 0) (pa_cons (pv 1) pa_nil)))) (blkOk_by (own := [("span", 3)]) (N := N_common) (sc := defScope s_common) (by decide +kernel)) (fun _ _ _ _ _ => (pg_name (i := 3) sc_common.nd rfl (by first | exact Or.inl rfl | exact Or.inr rfl))) (fun _ _ _ _ _ => (pts_one (pt_cmpR op_notN1 (pe_ix ix_seq (pv 3) pe_int (fun _ _ => rfl)) pe_non (nomark _)))) (fun _ _ _ _ _ => (pe_ix ix_seq (pv 3) pe_int (fun _ _ => rfl))))
    (pss_cons (ps_set (i := 5) sc_common.nd rfl (by first | exact Or.inl rfl | exact Or.inr rfl) (pe_callBK (call_maxD rfl hr.units) (by rfl) T.n_max (by decide +kernel) (pa_cons (pv 2) pa_nil) (pk_cons pe_non pk_nil)))
    (pss_cons (ps_set (i := 6) sc_common.nd rfl (by first | exact Or.inl rfl | exact Or.inr rfl) (pe_callBK (call_minD rfl hr.units) (by rfl) T.n_min (by decide +kernel) (pa_cons (pv 4) pa_nil) (pk_cons pe_non pk_nil)))
    (pss_cons (ps_if (PW.pt (pw_and (pt_cmpR op_notN1 (pv 5) pe_non (nomark _)) (pw_and (pt_cmpR op_notN1 (pv 6) pe_non (nomark _)) (pw_and1 (pt_cmpR op_gt (pv 5) (pv 6) (nomark _))))))
    (pss_one (ps_ret pe_non)) pss_nil)
    (pss_one (ps_ret (pe_tup (pa_cons (pv 5) (pa_cons (pv 6) pa_nil))))))))))) (fun E xs out h => sd_common E h)
theorem ok_l_cell (T : Txt K mg) : FnOk P w K mg base CX0 1 T.a_l_cell T.d_l_cell ["_law_script", "_law_k"] (spD K R_l_cell) :=
  ok_def (t := t_l_cell K) T.F_l_cell sc_l_cell hl_l_cell (fun cdv A outer s H E hr =>
    (pss_cons (ps_set (i := 2) sc_l_cell.nd rfl (by first | exact Or.inl rfl | exact Or.inr rfl) (pe_op op_addU (pe_op op_mulU pe_int (pv 1)) pe_int))
    (pss_cons (ps_if (pt_cmpR (op_neU hr.units) (pv 0) (pe_lst pa_nil) (nomark _))
    (pss_cons (ps_set (i := 2) sc_l_cell.nd rfl (by first | exact Or.inl rfl | exact Or.inr rfl) (pe_op op_mulU (pe_ix ix_seq (pv 0) (pe_op op_mod (pv 1) (pe_callB call_len (by rfl) T.n_len (by decide +kernel) (pa_cons (pv 0) pa_nil))) (fun _ _ => rfl)) pe_int))
    (pss_one (ps_set (i := 2) sc_l_cell.nd rfl (by first | exact Or.inl rfl | exact Or.inr rfl) (pe_op op_addU (pe_op op_addU (pv 2) (pe_op op_mulU pe_int (pv 1))) (pe_op op_mulU (pe_op op_fdivW (pv 1) (pe_callB call_len (by rfl) T.n_len (by decide +kernel) (pa_cons (pv 0) pa_nil))) pe_int))))) pss_nil)
    (pss_cons (ps_set (i := 3) sc_l_cell.nd rfl (by first | exact Or.inl rfl | exact Or.inr rfl) (pe_op op_mod (pv 2) pe_int))
    (pss_cons (ps_set (i := 3) sc_l_cell.nd rfl (by first | exact Or.inl rfl | exact Or.inr rfl) (pe_op op_mod (pe_op op_mulU (pv 3) (pv 3)) pe_int))
    (pss_one (ps_ret (pe_op op_mod (pe_op op_addU (pe_op op_addU (pe_op op_mulU (pv 3) (pv 3)) (pe_op op_mulU pe_int (pv 3))) (pv 1)) pe_int)))))))) (fun E xs out h => sd_l_cell E h)
theorem ok_l_place (T : Txt K mg) : FnOk P w K mg base CX0 1 T.a_l_place T.d_l_place ["_law_cell_here"] (spD K R_l_place) :=
  ok_def (t := t_l_place K) T.F_l_place sc_l_place hl_l_place (fun cdv A outer s H E hr =>
    (pss_cons (ps_set (i := 1) sc_l_place.nd rfl (by first | exact Or.inl rfl | exact Or.inr rfl) pe_int)
    (pss_cons (ps_for PassesOwn.never rfl (pi_rangeU1 rfl T.n_range (pa_cons pe_int pa_nil)) (pg_name (i := 2) sc_l_place.nd rfl (by first | exact Or.inl rfl | exact Or.inr rfl))
    (pss_one (ps_set (i := 1) sc_l_place.nd rfl (by first | exact Or.inl rfl | exact Or.inr rfl) (pe_op op_mod (pe_op op_mulU (pv 1) (pe_op op_addU (pv 0) (pv 2))) (pe_op op_pow pe_int pe_int)))))
    (pss_one (ps_ret (pe_ix ix_seq (pe_lst (pa_cons (pe_op op_sub (pe_op op_mod (pe_op op_fdivW (pv 0) pe_int) pe_int) pe_int) (pa_cons (pe_op op_sub (pe_op op_mod (pe_op op_fdivW (pv 0) pe_int) pe_int) pe_int) (pa_cons (pe_op op_sub (pe_op op_mod (pe_op op_fdivW (pv 0) pe_int) pe_int) pe_int) (pa_cons (pv 1) (pa_cons (pe_un un_neg (pv 1)) (pa_cons pe_int pa_nil))))))) (pe_op op_mod (pv 0) pe_int) (fun _ _ => rfl))))))) (fun E xs out h => sd_l_place E h)
theorem ok_l_span (T : Txt K mg) : FnOk P w K mg base CX0 1 T.a_l_span T.d_l_span ["_law_cell_here", "_law_base"] (spD K R_l_span) :=
  ok_def (t := t_l_span K) T.F_l_span sc_l_span hl_l_span (fun cdv A outer s H E hr =>
    (pss_cons (ps_set (i := 2) sc_l_span.nd rfl (by first | exact Or.inl rfl | exact Or.inr rfl) (pe_op op_sub (pe_op op_addU (pv 1) (pe_op op_mod (pe_op op_fdivW (pv 0) pe_int) pe_int)) pe_int))
    (pss_cons (ps_set (i := 3) sc_l_span.nd rfl (by first | exact Or.inl rfl | exact Or.inr rfl) (pe_op op_addU (pv 2) (pe_ix ix_seq (pe_lst (pa_cons pe_int (pa_cons pe_int (pa_cons (pe_op op_mod (pe_op op_fdivW (pv 0) pe_int) pe_int) (pa_cons (pe_op op_mod (pe_op op_fdivW (pv 0) pe_int) pe_int) pa_nil))))) (pe_op op_mod (pe_op op_fdivW (pv 0) pe_int) pe_int) (fun _ _ => rfl))))
    (pss_cons (ps_if (pt_cmpR (op_eqU hr.units) (pe_op op_mod (pv 0) pe_int) pe_int (nomark _))
    (pss_one (ps_ret (pe_tup (pa_cons pe_non (pa_cons (pv 3) pa_nil))))) pss_nil)
    (pss_cons (ps_if (pt_cmpR (op_eqU hr.units) (pe_op op_mod (pv 0) pe_int) pe_int (nomark _))
    (pss_one (ps_ret (pe_tup (pa_cons (pv 2) (pa_cons pe_non pa_nil))))) pss_nil)
    (pss_cons (ps_if (pt_cmpR (op_eqU hr.units) (pe_op op_mod (pv 0) pe_int) pe_int (nomark _))
    (pss_one (ps_ret (pe_tup (pa_cons pe_non (pa_cons pe_non pa_nil))))) pss_nil)
    (pss_one (ps_ret (pe_tup (pa_cons (pv 2) (pa_cons (pv 3) pa_nil))))))))))) (fun E xs out h => sd_l_span E h)
theorem ok_l_bad_span (T : Txt K mg) : FnOk P w K mg base CX0 1 T.a_l_bad_span T.d_l_bad_span ["_law_cell_here"] (spD K R_l_bad_span) :=
  ok_def (t := t_l_bad_span K) T.F_l_bad_span sc_l_bad_span hl_l_bad_span (fun cdv A outer s H E hr =>
    (pss_cons (ps_set (i := 1) sc_l_bad_span.nd rfl (by first | exact Or.inl rfl | exact Or.inr rfl) (pe_lst (pa_cons pe_non (pa_cons pe_int (pa_cons pe_str (pa_cons (pe_lst (pa_cons pe_int (pa_cons pe_int pa_nil))) (pa_cons (pe_tup (pa_cons pe_int pa_nil)) (pa_cons (pe_tup (pa_cons pe_int (pa_cons pe_int (pa_cons pe_int pa_nil)))) (pa_cons (pe_tup (pa_cons pe_int (pa_cons pe_int pa_nil))) (pa_cons (pe_tup (pa_cons pe_bl (pa_cons pe_int pa_nil))) (pa_cons (pe_tup (pa_cons pe_int (pa_cons pe_bl pa_nil))) (pa_cons (pe_tup (pa_cons pe_int (pa_cons pe_str pa_nil))) (pa_cons (pe_tup (pa_cons pe_non (pa_cons pe_str pa_nil))) (pa_cons pe_dnewK (pa_cons (pe_tup pa_nil) pa_nil)))))))))))))))
    (pss_cons (ps_set (i := 1) sc_l_bad_span.nd rfl (by first | exact Or.inl rfl | exact Or.inr rfl) (pe_op op_addU (pv 1) (pe_lst (pa_cons (pe_tup (pa_cons (pe_tup (pa_cons pe_int (pa_cons pe_int pa_nil))) (pa_cons pe_int pa_nil))) (pa_cons (pe_tup (pa_cons (pe_op op_pow pe_int pe_int) (pa_cons (pe_op op_sub (pe_op op_pow pe_int pe_int) pe_int) pa_nil))) (pa_cons (pe_tup (pa_cons pe_int (pa_cons (pe_op op_sub (pe_un un_neg pe_int) (pe_op op_mod (pe_op op_fdivW (pv 0) pe_int) pe_int)) pa_nil))) pa_nil))))))
    (pss_one (ps_ret (pe_ix ix_seq (pv 1) (pe_op op_mod (pv 0) pe_int) (fun _ _ => rfl))))))) (fun E xs out h => sd_l_bad_span E h)
theorem ok_l_in (T : Txt K mg) : FnOk P w K mg base CX0 1 T.a_l_in T.d_l_in ["_law_span_here", "_law_place_here"] (spD K R_l_in) :=
  ok_def (t := t_l_in K) T.F_l_in sc_l_in hl_l_in (fun cdv A outer s H E hr =>
    (pss_cons (ps_if (PW.pt (pw_and (pt_cmpR op_notN1 (pe_ix ix_seq (pv 0) pe_int (fun _ _ => rfl)) pe_non (nomark _)) (pw_and1 (pt_cmpR op_lt (pv 1) (pe_ix ix_seq (pv 0) pe_int (fun _ _ => rfl)) (nomark _)))))
    (pss_one (ps_ret pe_bl)) pss_nil)
    (pss_one (ps_ret (pe_orT (pe_cmpR op_isN1 (pe_ix ix_seq (pv 0) pe_int (fun _ _ => rfl)) pe_non (nomark _)) (pe_one (pe_cmpR op_le (pv 1) (pe_ix ix_seq (pv 0) pe_int (fun _ _ => rfl)) (nomark _)))))))) (fun E xs out h => sd_l_in E h)
theorem ok_l_size (T : Txt K mg) : FnOk P w K mg base CX0 1 T.a_l_size T.d_l_size ["_law_span_here"] (spD K R_l_size) :=
  ok_def (t := t_l_size K) T.F_l_size sc_l_size hl_l_size (fun cdv A outer s H E hr =>
    (pss_cons (ps_if (PW.pt (pw_or (pt_cmpR op_isN1 (pe_ix ix_seq (pv 0) pe_int (fun _ _ => rfl)) pe_non (nomark _)) (pw_or1 (pt_cmpR op_isN1 (pe_ix ix_seq (pv 0) pe_int (fun _ _ => rfl)) pe_non (nomark _)))))
    (pss_one (ps_ret pe_non)) pss_nil)
    (pss_one (ps_ret (pe_op op_addU (pe_op op_sub (pe_ix ix_seq (pv 0) pe_int (fun _ _ => rfl)) (pe_ix ix_seq (pv 0) pe_int (fun _ _ => rfl))) pe_int))))) (fun E xs out h => sd_l_size E h)
theorem ok_l_places (T : Txt K mg) : FnOk P w K mg base CX0 1 T.a_l_places T.d_l_places ["_law_one", "_law_other"] (spD K R_l_places) :=
  ok_def (t := t_l_places K) T.F_l_places sc_l_places hl_l_places (fun cdv A outer s H E hr =>
    (pss_cons (ps_set (i := 2) sc_l_places.nd rfl (by first | exact Or.inl rfl | exact Or.inr rfl) (pe_lst (pa_cons (pe_un un_neg (pe_op op_pow pe_int pe_int)) (pa_cons (pe_op op_pow pe_int pe_int) pa_nil))))
    (pss_cons (ps_for PassesOwn.never rfl (pi_seq (pe_op op_addU (pv 0) (pv 1))) (pg_name (i := 3) sc_l_places.nd rfl (by first | exact Or.inl rfl | exact Or.inr rfl))
    (pss_one (ps_if (pt_cmpR op_notN1 (pv 3) pe_non (nomark _))
    (pss_one (ps_set (i := 2) sc_l_places.nd rfl (by first | exact Or.inl rfl | exact Or.inr rfl) (pe_op op_addU (pv 2) (pe_lst (pa_cons (pe_op op_sub (pv 3) pe_int) (pa_cons (pv 3) (pa_cons (pe_op op_addU (pv 3) pe_int) pa_nil))))))) pss_nil)))
    (pss_one (ps_ret (pv 2)))))) (fun E xs out h => sd_l_places E h)
theorem ok_l_common_right (T : Txt K mg) : FnOk P w K mg base CX0 3 T.a_l_common_right T.d_l_common_right ["_law_one", "_law_other"] (spD K R_l_common_right) :=
  ok_def (t := t_l_common_right K) T.F_l_common_right sc_l_common_right hl_l_common_right (fun cdv A outer s H E hr =>
    (pss_cons (ps_set (i := 2) sc_l_common_right.nd rfl (by first | exact Or.inl rfl | exact Or.inr rfl) (pe_call (ok_common T) (hr.mono (by decide)) (by rfl) T.g_common T.F_common.kp T.b_common .nil pass0 (pa_cons (pv 0) (pa_cons (pv 1) pa_nil))))
    (pss_cons (ps_for PassesOwn.never rfl (pi_seq (pe_call (ok_l_places T) (hr.mono (by decide)) (by rfl) T.g_l_places T.F_l_places.kp T.b_l_places .nil pass0 (pa_cons (pv 0) (pa_cons (pv 1) pa_nil)))) (pg_name (i := 3) sc_l_common_right.nd rfl (by first | exact Or.inl rfl | exact Or.inr rfl))
    (pss_cons (ps_set (i := 4) sc_l_common_right.nd rfl (by first | exact Or.inl rfl | exact Or.inr rfl) (pe_andT (pe_call (ok_l_in T) (hr.mono (by decide)) (by rfl) T.g_l_in T.F_l_in.kp T.b_l_in .nil pass0 (pa_cons (pv 0) (pa_cons (pv 3) pa_nil))) (pe_one (pe_call (ok_l_in T) (hr.mono (by decide)) (by rfl) T.g_l_in T.F_l_in.kp T.b_l_in .nil pass0 (pa_cons (pv 1) (pa_cons (pv 3) pa_nil))))))
    (pss_one (ps_if (pt_cmpR (op_neU hr.units) (pv 4) (pe_andT (pe_cmpR op_notN1 (pv 2) pe_non (nomark _)) (pe_one (pe_call (ok_l_in T) (hr.mono (by decide)) (by rfl) T.g_l_in T.F_l_in.kp T.b_l_in .nil pass0 (pa_cons (pv 2) (pa_cons (pv 3) pa_nil))))) (nomark _))
    (pss_one (ps_ret pe_bl)) pss_nil))))
    (pss_one (ps_ret (pe_orT (pe_cmpR op_isN1 (pv 2) pe_non (nomark _)) (pe_one (pe_andT (pe_callB call_isi (by rfl) T.n_isinstance (by decide +kernel) (pa_cons (pv 2) (pa_cons (pe_bltn (v := .ty "tuple") (by rfl) T.n_tuple (by decide +kernel) rfl) pa_nil))) (pe_one (pe_cmpR op_isB1 (pe_call (ok_is_span T) (hr.mono (by decide)) (by rfl) T.g_is_span T.F_is_span.kp T.b_is_span .nil pass0 (pa_cons (pv 2) pa_nil)) pe_bl (nomark _))))))))))) (fun E xs out h => sd_l_common_right E h)
theorem ok_law (T : Txt K mg) : FnOk P w K mg base CX0 4 T.a_law T.d_law ["_law_script"] (spD K R_law) :=
  ok_def (t := t_law K) T.F_law sc_law hl_law (fun cdv A outer s H E hr =>
    (pss_cons (ps_for PassesOwn.never rfl (pi_rangeU1 rfl T.n_range (pa_cons (pe_callB (call_max2 rfl) (by rfl) T.n_max (by decide +kernel) (pa_cons pe_int (pa_cons (pe_callB (call_min2 rfl) (by rfl) T.n_min (by decide +kernel) (pa_cons (pe_callB call_len (by rfl) T.n_len (by decide +kernel) (pa_cons (pv 0) pa_nil)) (pa_cons pe_int pa_nil))) pa_nil))) pa_nil)) (pg_name (i := 1) sc_law.nd rfl (by first | exact Or.inl rfl | exact Or.inr rfl))
    (pss_cons (ps_set (i := 2) sc_law.nd rfl (by first | exact Or.inl rfl | exact Or.inr rfl) (pe_call (ok_l_place T) (hr.mono (by decide)) (by rfl) T.g_l_place T.F_l_place.kp T.b_l_place .nil pass0 (pa_cons (pe_call (ok_l_cell T) (hr.mono (by decide)) (by rfl) T.g_l_cell T.F_l_cell.kp T.b_l_cell .nil pass0 (pa_cons (pv 0) (pa_cons (pe_op op_mulU pe_int (pv 1)) pa_nil))) pa_nil)))
    (pss_cons (ps_set (i := 3) sc_law.nd rfl (by first | exact Or.inl rfl | exact Or.inr rfl) (pe_call (ok_l_span T) (hr.mono (by decide)) (by rfl) T.g_l_span T.F_l_span.kp T.b_l_span .nil pass0 (pa_cons (pe_call (ok_l_cell T) (hr.mono (by decide)) (by rfl) T.g_l_cell T.F_l_cell.kp T.b_l_cell .nil pass0 (pa_cons (pv 0) (pa_cons (pe_op op_addU (pe_op op_mulU pe_int (pv 1)) pe_int) pa_nil))) (pa_cons (pv 2) pa_nil))))
    (pss_cons (ps_set (i := 4) sc_law.nd rfl (by first | exact Or.inl rfl | exact Or.inr rfl) (pe_call (ok_l_span T) (hr.mono (by decide)) (by rfl) T.g_l_span T.F_l_span.kp T.b_l_span .nil pass0 (pa_cons (pe_call (ok_l_cell T) (hr.mono (by decide)) (by rfl) T.g_l_cell T.F_l_cell.kp T.b_l_cell .nil pass0 (pa_cons (pv 0) (pa_cons (pe_op op_addU (pe_op op_mulU pe_int (pv 1)) pe_int) pa_nil))) (pa_cons (pv 2) pa_nil))))
    (pss_cons (ps_if (PW.pt (pw_or (pt_cmpR op_notB1 (pe_call (ok_is_span T) (hr.mono (by decide)) (by rfl) T.g_is_span T.F_is_span.kp T.b_is_span .nil pass0 (pa_cons (pv 3) pa_nil)) pe_bl (nomark _)) (pw_or1 (pt_cmpR op_notB1 (pe_call (ok_is_span T) (hr.mono (by decide)) (by rfl) T.g_is_span T.F_is_span.kp T.b_is_span .nil pass0 (pa_cons (pe_call (ok_l_bad_span T) (hr.mono (by decide)) (by rfl) T.g_l_bad_span T.F_l_bad_span.kp T.b_l_bad_span .nil pass0 (pa_cons (pe_call (ok_l_cell T) (hr.mono (by decide)) (by rfl) T.g_l_cell T.F_l_cell.kp T.b_l_cell .nil pass0 (pa_cons (pv 0) (pa_cons (pe_op op_mulU pe_int (pv 1)) pa_nil))) pa_nil)) pa_nil)) pe_bl (nomark _)))))
    (pss_one (ps_ret pe_bl)) pss_nil)
    (pss_cons (ps_set (i := 5) sc_law.nd rfl (by first | exact Or.inl rfl | exact Or.inr rfl) (pe_ix ix_seq (pe_lst (pa_cons (pv 2) (pa_cons pe_bl (pa_cons pe_non (pa_cons pe_str (pa_cons (pe_tup (pa_cons pe_int pa_nil)) (pa_cons pe_bl (pa_cons (pe_un un_neg (pv 2)) (pa_cons (pe_lst (pa_cons pe_int pa_nil)) pa_nil))))))))) (pe_op op_mod (pe_call (ok_l_cell T) (hr.mono (by decide)) (by rfl) T.g_l_cell T.F_l_cell.kp T.b_l_cell .nil pass0 (pa_cons (pv 0) (pa_cons (pe_op op_addU (pe_op op_mulU pe_int (pv 1)) pe_int) pa_nil))) pe_int) (fun _ _ => rfl)))
    (pss_cons (ps_set (i := 6) sc_law.nd rfl (by first | exact Or.inl rfl | exact Or.inr rfl) (pe_andT (pe_callB call_isi (by rfl) T.n_isinstance (by decide +kernel) (pa_cons (pv 5) (pa_cons (pe_bltn (v := .ty "int") (by rfl) T.n_int (by decide +kernel) rfl) pa_nil))) (pe_one (pe_notT (pe_callB call_isi (by rfl) T.n_isinstance (by decide +kernel) (pa_cons (pv 5) (pa_cons (pe_bltn (v := .ty "bool") (by rfl) T.n_bool (by decide +kernel) rfl) pa_nil)))))))
    (pss_cons (ps_if (PW.pt (pw_or (pt_not (pt_truth (pe_callB call_isi (by rfl) T.n_isinstance (by decide +kernel) (pa_cons (pe_call (ok_is_place T) (hr.mono (by decide)) (by rfl) T.g_is_place T.F_is_place.kp T.b_is_place .nil pass0 (pa_cons (pv 5) pa_nil)) (pa_cons (pe_bltn (v := .ty "bool") (by rfl) T.n_bool (by decide +kernel) rfl) pa_nil))) (by intro _; rfl))) (pw_or1 (pt_cmpR (op_neU hr.units) (pe_call (ok_is_place T) (hr.mono (by decide)) (by rfl) T.g_is_place T.F_is_place.kp T.b_is_place .nil pass0 (pa_cons (pv 5) pa_nil)) (pv 6) (nomark _)))))
    (pss_one (ps_ret pe_bl)) pss_nil)
    (pss_cons (ps_for PassesOwn.never rfl (pi_seq (pe_call (ok_l_places T) (hr.mono (by decide)) (by rfl) T.g_l_places T.F_l_places.kp T.b_l_places .nil pass0 (pa_cons (pv 3) (pa_cons (pv 4) pa_nil)))) (pg_name (i := 7) sc_law.nd rfl (by first | exact Or.inl rfl | exact Or.inr rfl))
    (pss_one (ps_if (PW.pt (pw_or (pt_not (pt_truth (pe_callB call_isi (by rfl) T.n_isinstance (by decide +kernel) (pa_cons (pe_call (ok_has T) (hr.mono (by decide)) (by rfl) T.g_has T.F_has.kp T.b_has .nil pass0 (pa_cons (pv 3) (pa_cons (pv 7) pa_nil))) (pa_cons (pe_bltn (v := .ty "bool") (by rfl) T.n_bool (by decide +kernel) rfl) pa_nil))) (by intro _; rfl))) (pw_or1 (pt_cmpR (op_neU hr.units) (pe_call (ok_has T) (hr.mono (by decide)) (by rfl) T.g_has T.F_has.kp T.b_has .nil pass0 (pa_cons (pv 3) (pa_cons (pv 7) pa_nil))) (pe_call (ok_l_in T) (hr.mono (by decide)) (by rfl) T.g_l_in T.F_l_in.kp T.b_l_in .nil pass0 (pa_cons (pv 3) (pa_cons (pv 7) pa_nil))) (nomark _)))))
    (pss_one (ps_ret pe_bl)) pss_nil)))
    (pss_cons (ps_set (i := 8) sc_law.nd rfl (by first | exact Or.inl rfl | exact Or.inr rfl) (pe_call (ok_size_of T) (hr.mono (by decide)) (by rfl) T.g_size_of T.F_size_of.kp T.b_size_of .nil pass0 (pa_cons (pv 3) pa_nil)))
    (pss_cons (ps_if (PW.pt (pw_or (pt_cmpR (op_neU hr.units) (pv 8) (pe_call (ok_l_size T) (hr.mono (by decide)) (by rfl) T.g_l_size T.F_l_size.kp T.b_l_size .nil pass0 (pa_cons (pv 3) pa_nil)) (nomark _)) (pw_or1 (pt_truth (pe_callB call_isi (by rfl) T.n_isinstance (by decide +kernel) (pa_cons (pv 8) (pa_cons (pe_bltn (v := .ty "bool") (by rfl) T.n_bool (by decide +kernel) rfl) pa_nil))) (by intro _; rfl)))))
    (pss_one (ps_ret pe_bl)) pss_nil)
    (pss_cons (ps_set (i := 9) sc_law.nd rfl (by first | exact Or.inl rfl | exact Or.inr rfl) (pe_op op_addU (pe_op op_pow pe_int pe_int) (pe_call (ok_l_cell T) (hr.mono (by decide)) (by rfl) T.g_l_cell T.F_l_cell.kp T.b_l_cell .nil pass0 (pa_cons (pv 0) (pa_cons (pe_op op_addU (pe_op op_mulU pe_int (pv 1)) pe_int) pa_nil)))))
    (pss_cons (ps_if (pt_cmpR (op_neU hr.units) (pe_call (ok_size_of T) (hr.mono (by decide)) (by rfl) T.g_size_of T.F_size_of.kp T.b_size_of .nil pass0 (pa_cons (pe_tup (pa_cons (pe_op op_sub (pv 2) (pv 9)) (pa_cons (pe_op op_addU (pv 2) (pv 9)) pa_nil))) pa_nil)) (pe_op op_addU (pe_op op_mulU pe_int (pv 9)) pe_int) (nomark _))
    (pss_one (ps_ret pe_bl)) pss_nil)
    (pss_one (ps_if (PW.pt (pw_or (pt_not (pt_truth (pe_call (ok_l_common_right T) (hr.mono (by decide)) (by rfl) T.g_l_common_right T.F_l_common_right.kp T.b_l_common_right .nil pass0 (pa_cons (pv 3) (pa_cons (pv 4) pa_nil))) (by intro _; rfl))) (pw_or1 (pt_cmpR (op_neU hr.units) (pe_call (ok_common T) (hr.mono (by decide)) (by rfl) T.g_common T.F_common.kp T.b_common .nil pass0 (pa_cons (pv 3) (pa_cons (pv 4) pa_nil))) (pe_call (ok_common T) (hr.mono (by decide)) (by rfl) T.g_common T.F_common.kp T.b_common .nil pass0 (pa_cons (pv 4) (pa_cons (pv 3) pa_nil))) (nomark _)))))
    (pss_one (ps_ret pe_bl)) pss_nil)))))))))))))))
    (pss_one (ps_ret pe_bl)))) (fun E xs out h => sd_law E h)
end
theorem all_mk {l : PySem.W.OpenLaw} {w : World} {K : PySem.W.Frag} {h : Heap} {mg : Str → Option Value} {fa : Addr} (X : K.In h) (G : h.Ns mainGlobals mg) (hfa : mg "law" = some (.ref fa))
    {f_is_place : Addr} {od_is_place an_is_place : Option Addr} {sl_is_place : Array (Option Value)} {oc_is_place kV_is_place dc_is_place pm_is_place cd_is_place ct_is_place : Value}
    (a_is_place : PySem.W.nsIn K mainGlobals "is_place" = some (some (.ref f_is_place))) (l_is_place : K.lookup f_is_place = some ⟨oc_is_place, od_is_place, .func (PySem.W.fnOf "is_place" "is_place" (defArgs s_is_place) (defBody s_is_place) (defScope s_is_place) .none kV_is_place dc_is_place pm_is_place an_is_place cd_is_place ct_is_place), sl_is_place⟩) (c_is_place : PySem.W.codeIn K cd_is_place "is_place" = true) (k_is_place : PySem.W.keepIn K (.ref f_is_place) = true)
    {f_is_span : Addr} {od_is_span an_is_span : Option Addr} {sl_is_span : Array (Option Value)} {oc_is_span kV_is_span dc_is_span pm_is_span cd_is_span ct_is_span : Value}
    (a_is_span : PySem.W.nsIn K mainGlobals "is_span" = some (some (.ref f_is_span))) (l_is_span : K.lookup f_is_span = some ⟨oc_is_span, od_is_span, .func (PySem.W.fnOf "is_span" "is_span" (defArgs s_is_span) (defBody s_is_span) (defScope s_is_span) .none kV_is_span dc_is_span pm_is_span an_is_span cd_is_span ct_is_span), sl_is_span⟩) (c_is_span : PySem.W.codeIn K cd_is_span "is_span" = true) (k_is_span : PySem.W.keepIn K (.ref f_is_span) = true)
    {f_has : Addr} {od_has an_has : Option Addr} {sl_has : Array (Option Value)} {oc_has kV_has dc_has pm_has cd_has ct_has : Value}
    (a_has : PySem.W.nsIn K mainGlobals "has" = some (some (.ref f_has))) (l_has : K.lookup f_has = some ⟨oc_has, od_has, .func (PySem.W.fnOf "has" "has" (defArgs s_has) (defBody s_has) (defScope s_has) .none kV_has dc_has pm_has an_has cd_has ct_has), sl_has⟩) (c_has : PySem.W.codeIn K cd_has "has" = true) (k_has : PySem.W.keepIn K (.ref f_has) = true)
    {f_size_of : Addr} {od_size_of an_size_of : Option Addr} {sl_size_of : Array (Option Value)} {oc_size_of kV_size_of dc_size_of pm_size_of cd_size_of ct_size_of : Value}
    (a_size_of : PySem.W.nsIn K mainGlobals "size_of" = some (some (.ref f_size_of))) (l_size_of : K.lookup f_size_of = some ⟨oc_size_of, od_size_of, .func (PySem.W.fnOf "size_of" "size_of" (defArgs s_size_of) (defBody s_size_of) (defScope s_size_of) .none kV_size_of dc_size_of pm_size_of an_size_of cd_size_of ct_size_of), sl_size_of⟩) (c_size_of : PySem.W.codeIn K cd_size_of "size_of" = true) (k_size_of : PySem.W.keepIn K (.ref f_size_of) = true)
    {f_common : Addr} {od_common an_common : Option Addr} {sl_common : Array (Option Value)} {oc_common kV_common dc_common pm_common cd_common ct_common : Value}
    (a_common : PySem.W.nsIn K mainGlobals "common" = some (some (.ref f_common))) (l_common : K.lookup f_common = some ⟨oc_common, od_common, .func (PySem.W.fnOf "common" "common" (defArgs s_common) (defBody s_common) (defScope s_common) .none kV_common dc_common pm_common an_common cd_common ct_common), sl_common⟩) (c_common : PySem.W.codeIn K cd_common "common" = true) (k_common : PySem.W.keepIn K (.ref f_common) = true)
    {f_l_cell : Addr} {od_l_cell an_l_cell : Option Addr} {sl_l_cell : Array (Option Value)} {oc_l_cell kV_l_cell dc_l_cell pm_l_cell cd_l_cell ct_l_cell : Value}
    (a_l_cell : PySem.W.nsIn K mainGlobals "_law_cell" = some (some (.ref f_l_cell))) (l_l_cell : K.lookup f_l_cell = some ⟨oc_l_cell, od_l_cell, .func (PySem.W.fnOf "_law_cell" "_law_cell" (defArgs s_l_cell) (defBody s_l_cell) (defScope s_l_cell) .none kV_l_cell dc_l_cell pm_l_cell an_l_cell cd_l_cell ct_l_cell), sl_l_cell⟩) (c_l_cell : PySem.W.codeIn K cd_l_cell "_law_cell" = true) (k_l_cell : PySem.W.keepIn K (.ref f_l_cell) = true)
    {f_l_place : Addr} {od_l_place an_l_place : Option Addr} {sl_l_place : Array (Option Value)} {oc_l_place kV_l_place dc_l_place pm_l_place cd_l_place ct_l_place : Value}
    (a_l_place : PySem.W.nsIn K mainGlobals "_law_place" = some (some (.ref f_l_place))) (l_l_place : K.lookup f_l_place = some ⟨oc_l_place, od_l_place, .func (PySem.W.fnOf "_law_place" "_law_place" (defArgs s_l_place) (defBody s_l_place) (defScope s_l_place) .none kV_l_place dc_l_place pm_l_place an_l_place cd_l_place ct_l_place), sl_l_place⟩) (c_l_place : PySem.W.codeIn K cd_l_place "_law_place" = true) (k_l_place : PySem.W.keepIn K (.ref f_l_place) = true)
    {f_l_span : Addr} {od_l_span an_l_span : Option Addr} {sl_l_span : Array (Option Value)} {oc_l_span kV_l_span dc_l_span pm_l_span cd_l_span ct_l_span : Value}
    (a_l_span : PySem.W.nsIn K mainGlobals "_law_span" = some (some (.ref f_l_span))) (l_l_span : K.lookup f_l_span = some ⟨oc_l_span, od_l_span, .func (PySem.W.fnOf "_law_span" "_law_span" (defArgs s_l_span) (defBody s_l_span) (defScope s_l_span) .none kV_l_span dc_l_span pm_l_span an_l_span cd_l_span ct_l_span), sl_l_span⟩) (c_l_span : PySem.W.codeIn K cd_l_span "_law_span" = true) (k_l_span : PySem.W.keepIn K (.ref f_l_span) = true)
    {f_l_bad_span : Addr} {od_l_bad_span an_l_bad_span : Option Addr} {sl_l_bad_span : Array (Option Value)} {oc_l_bad_span kV_l_bad_span dc_l_bad_span pm_l_bad_span cd_l_bad_span ct_l_bad_span : Value}
    (a_l_bad_span : PySem.W.nsIn K mainGlobals "_law_bad_span" = some (some (.ref f_l_bad_span))) (l_l_bad_span : K.lookup f_l_bad_span = some ⟨oc_l_bad_span, od_l_bad_span, .func (PySem.W.fnOf "_law_bad_span" "_law_bad_span" (defArgs s_l_bad_span) (defBody s_l_bad_span) (defScope s_l_bad_span) .none kV_l_bad_span dc_l_bad_span pm_l_bad_span an_l_bad_span cd_l_bad_span ct_l_bad_span), sl_l_bad_span⟩) (c_l_bad_span : PySem.W.codeIn K cd_l_bad_span "_law_bad_span" = true) (k_l_bad_span : PySem.W.keepIn K (.ref f_l_bad_span) = true)
    {f_l_in : Addr} {od_l_in an_l_in : Option Addr} {sl_l_in : Array (Option Value)} {oc_l_in kV_l_in dc_l_in pm_l_in cd_l_in ct_l_in : Value}
    (a_l_in : PySem.W.nsIn K mainGlobals "_law_in" = some (some (.ref f_l_in))) (l_l_in : K.lookup f_l_in = some ⟨oc_l_in, od_l_in, .func (PySem.W.fnOf "_law_in" "_law_in" (defArgs s_l_in) (defBody s_l_in) (defScope s_l_in) .none kV_l_in dc_l_in pm_l_in an_l_in cd_l_in ct_l_in), sl_l_in⟩) (c_l_in : PySem.W.codeIn K cd_l_in "_law_in" = true) (k_l_in : PySem.W.keepIn K (.ref f_l_in) = true)
    {f_l_size : Addr} {od_l_size an_l_size : Option Addr} {sl_l_size : Array (Option Value)} {oc_l_size kV_l_size dc_l_size pm_l_size cd_l_size ct_l_size : Value}
    (a_l_size : PySem.W.nsIn K mainGlobals "_law_size" = some (some (.ref f_l_size))) (l_l_size : K.lookup f_l_size = some ⟨oc_l_size, od_l_size, .func (PySem.W.fnOf "_law_size" "_law_size" (defArgs s_l_size) (defBody s_l_size) (defScope s_l_size) .none kV_l_size dc_l_size pm_l_size an_l_size cd_l_size ct_l_size), sl_l_size⟩) (c_l_size : PySem.W.codeIn K cd_l_size "_law_size" = true) (k_l_size : PySem.W.keepIn K (.ref f_l_size) = true)
    {f_l_places : Addr} {od_l_places an_l_places : Option Addr} {sl_l_places : Array (Option Value)} {oc_l_places kV_l_places dc_l_places pm_l_places cd_l_places ct_l_places : Value}
    (a_l_places : PySem.W.nsIn K mainGlobals "_law_places" = some (some (.ref f_l_places))) (l_l_places : K.lookup f_l_places = some ⟨oc_l_places, od_l_places, .func (PySem.W.fnOf "_law_places" "_law_places" (defArgs s_l_places) (defBody s_l_places) (defScope s_l_places) .none kV_l_places dc_l_places pm_l_places an_l_places cd_l_places ct_l_places), sl_l_places⟩) (c_l_places : PySem.W.codeIn K cd_l_places "_law_places" = true) (k_l_places : PySem.W.keepIn K (.ref f_l_places) = true)
    {f_l_common_right : Addr} {od_l_common_right an_l_common_right : Option Addr} {sl_l_common_right : Array (Option Value)} {oc_l_common_right kV_l_common_right dc_l_common_right pm_l_common_right cd_l_common_right ct_l_common_right : Value}
    (a_l_common_right : PySem.W.nsIn K mainGlobals "_law_common_right" = some (some (.ref f_l_common_right))) (l_l_common_right : K.lookup f_l_common_right = some ⟨oc_l_common_right, od_l_common_right, .func (PySem.W.fnOf "_law_common_right" "_law_common_right" (defArgs s_l_common_right) (defBody s_l_common_right) (defScope s_l_common_right) .none kV_l_common_right dc_l_common_right pm_l_common_right an_l_common_right cd_l_common_right ct_l_common_right), sl_l_common_right⟩) (c_l_common_right : PySem.W.codeIn K cd_l_common_right "_law_common_right" = true) (k_l_common_right : PySem.W.keepIn K (.ref f_l_common_right) = true)
    {f_law : Addr} {od_law an_law : Option Addr} {sl_law : Array (Option Value)} {oc_law kV_law dc_law pm_law cd_law ct_law : Value}
    (a_law : PySem.W.nsIn K mainGlobals "law" = some (some (.ref f_law))) (l_law : K.lookup f_law = some ⟨oc_law, od_law, .func (PySem.W.fnOf "law" "law" (defArgs s_law) (defBody s_law) (defScope s_law) .none kV_law dc_law pm_law an_law cd_law ct_law), sl_law⟩) (c_law : PySem.W.codeIn K cd_law "law" = true) (k_law : PySem.W.keepIn K (.ref f_law) = true)
    (z_all : PySem.W.nsIn K mainGlobals "all" = some none)
    (z_bool : PySem.W.nsIn K mainGlobals "bool" = some none)
    (z_int : PySem.W.nsIn K mainGlobals "int" = some none)
    (z_isinstance : PySem.W.nsIn K mainGlobals "isinstance" = some none)
    (z_len : PySem.W.nsIn K mainGlobals "len" = some none)
    (z_max : PySem.W.nsIn K mainGlobals "max" = some none)
    (z_min : PySem.W.nsIn K mainGlobals "min" = some none)
    (z_range : PySem.W.nsIn K mainGlobals "range" = some none)
    (z_tuple : PySem.W.nsIn K mainGlobals "tuple" = some none)
    : ∃ fd : FuncData, (∀ (s : Shared) (v : Value), BindsTo s fd ⟨[v], []⟩ [("_law_script", v)]) ∧ ∀ base : Heap, K.In base → base.Ns mainGlobals mg → FnOk l.prog w K mg base CX0 4 fa fd ["_law_script"] (spD K R_law) := by
  have e := hfa.symm.trans (PySem.W.mg_of X G a_law)
  cases e
  let T : Txt K mg := {
    a_is_place := _, d_is_place := _, F_is_place := fun_mk (st := s_is_place) l_is_place c_is_place k_is_place, b_is_place := (fun_mk (st := s_is_place) l_is_place c_is_place k_is_place).binds (fun _ _ _ _ _ _ us hl => match us, hl with | [_], _ => rfl), g_is_place := PySem.W.mg_of X G a_is_place,
    a_is_span := _, d_is_span := _, F_is_span := fun_mk (st := s_is_span) l_is_span c_is_span k_is_span, b_is_span := (fun_mk (st := s_is_span) l_is_span c_is_span k_is_span).binds (fun _ _ _ _ _ _ us hl => match us, hl with | [_], _ => rfl), g_is_span := PySem.W.mg_of X G a_is_span,
    a_has := _, d_has := _, F_has := fun_mk (st := s_has) l_has c_has k_has, b_has := (fun_mk (st := s_has) l_has c_has k_has).binds (fun _ _ _ _ _ _ us hl => match us, hl with | [_, _], _ => rfl), g_has := PySem.W.mg_of X G a_has,
    a_size_of := _, d_size_of := _, F_size_of := fun_mk (st := s_size_of) l_size_of c_size_of k_size_of, b_size_of := (fun_mk (st := s_size_of) l_size_of c_size_of k_size_of).binds (fun _ _ _ _ _ _ us hl => match us, hl with | [_], _ => rfl), g_size_of := PySem.W.mg_of X G a_size_of,
    a_common := _, d_common := _, F_common := fun_mk (st := s_common) l_common c_common k_common, b_common := (fun_mk (st := s_common) l_common c_common k_common).binds (fun _ _ _ _ _ _ us hl => match us, hl with | [_, _], _ => rfl), g_common := PySem.W.mg_of X G a_common,
    a_l_cell := _, d_l_cell := _, F_l_cell := fun_mk (st := s_l_cell) l_l_cell c_l_cell k_l_cell, b_l_cell := (fun_mk (st := s_l_cell) l_l_cell c_l_cell k_l_cell).binds (fun _ _ _ _ _ _ us hl => match us, hl with | [_, _], _ => rfl), g_l_cell := PySem.W.mg_of X G a_l_cell,
    a_l_place := _, d_l_place := _, F_l_place := fun_mk (st := s_l_place) l_l_place c_l_place k_l_place, b_l_place := (fun_mk (st := s_l_place) l_l_place c_l_place k_l_place).binds (fun _ _ _ _ _ _ us hl => match us, hl with | [_], _ => rfl), g_l_place := PySem.W.mg_of X G a_l_place,
    a_l_span := _, d_l_span := _, F_l_span := fun_mk (st := s_l_span) l_l_span c_l_span k_l_span, b_l_span := (fun_mk (st := s_l_span) l_l_span c_l_span k_l_span).binds (fun _ _ _ _ _ _ us hl => match us, hl with | [_, _], _ => rfl), g_l_span := PySem.W.mg_of X G a_l_span,
    a_l_bad_span := _, d_l_bad_span := _, F_l_bad_span := fun_mk (st := s_l_bad_span) l_l_bad_span c_l_bad_span k_l_bad_span, b_l_bad_span := (fun_mk (st := s_l_bad_span) l_l_bad_span c_l_bad_span k_l_bad_span).binds (fun _ _ _ _ _ _ us hl => match us, hl with | [_], _ => rfl), g_l_bad_span := PySem.W.mg_of X G a_l_bad_span,
    a_l_in := _, d_l_in := _, F_l_in := fun_mk (st := s_l_in) l_l_in c_l_in k_l_in, b_l_in := (fun_mk (st := s_l_in) l_l_in c_l_in k_l_in).binds (fun _ _ _ _ _ _ us hl => match us, hl with | [_, _], _ => rfl), g_l_in := PySem.W.mg_of X G a_l_in,
    a_l_size := _, d_l_size := _, F_l_size := fun_mk (st := s_l_size) l_l_size c_l_size k_l_size, b_l_size := (fun_mk (st := s_l_size) l_l_size c_l_size k_l_size).binds (fun _ _ _ _ _ _ us hl => match us, hl with | [_], _ => rfl), g_l_size := PySem.W.mg_of X G a_l_size,
    a_l_places := _, d_l_places := _, F_l_places := fun_mk (st := s_l_places) l_l_places c_l_places k_l_places, b_l_places := (fun_mk (st := s_l_places) l_l_places c_l_places k_l_places).binds (fun _ _ _ _ _ _ us hl => match us, hl with | [_, _], _ => rfl), g_l_places := PySem.W.mg_of X G a_l_places,
    a_l_common_right := _, d_l_common_right := _, F_l_common_right := fun_mk (st := s_l_common_right) l_l_common_right c_l_common_right k_l_common_right, b_l_common_right := (fun_mk (st := s_l_common_right) l_l_common_right c_l_common_right k_l_common_right).binds (fun _ _ _ _ _ _ us hl => match us, hl with | [_, _], _ => rfl), g_l_common_right := PySem.W.mg_of X G a_l_common_right,
    a_law := _, d_law := _, F_law := fun_mk (st := s_law) l_law c_law k_law, b_law := (fun_mk (st := s_law) l_law c_law k_law).binds (fun _ _ _ _ _ _ us hl => match us, hl with | [_], _ => rfl), g_law := PySem.W.mg_of X G a_law,
    n_all := PySem.W.mg_none_of X G z_all,
    n_bool := PySem.W.mg_none_of X G z_bool,
    n_int := PySem.W.mg_none_of X G z_int,
    n_isinstance := PySem.W.mg_none_of X G z_isinstance,
    n_len := PySem.W.mg_none_of X G z_len,
    n_max := PySem.W.mg_none_of X G z_max,
    n_min := PySem.W.mg_none_of X G z_min,
    n_range := PySem.W.mg_none_of X G z_range,
    n_tuple := PySem.W.mg_none_of X G z_tuple }
  exact ⟨_, fun s v => .of_eq rfl, fun base _ _ => ok_law T⟩
theorem walk {l : PySem.W.OpenLaw} {q : Program} {loose : List Str} {XP : (Str → Option Value) → Heap → Prop} {YP : World → Heap → Prop} {d : DefRec} {K : Params → PySem.W.Frag} (hn : l.most = some 63) (hdf : d.params.defaults = [])
    (hY : ∀ (w : World) (h : Heap), YP w h → (K w.params).In h)
    (F : ∀ (w : World) (mg : Str → Option Value) (fa : Addr) (h : Heap), (K w.params).In h → h.Ns mainGlobals mg → mg d.name = some (.ref fa) →
      ∃ fd : FuncData, (∀ (s : Shared) (u : Value), BindsTo s fd ⟨[u], []⟩ [("_law_script", u)]) ∧ ∀ base : Heap, (K w.params).In base → base.Ns mainGlobals mg → FnOk l.prog w (K w.params) mg base CX0 4 fa fd ["_law_script"] (spD (K w.params) R_law)) :
    PySem.W.WalkO q loose XP YP l.row.toRowW d [] (fun f vs => PySem.call f vs) :=
  L2.walk_of (n := 63) (k := 4) (x := "_law_script") (CX := fun _ => CX0) (sp := fun w => spD (K w.params) R_law) hn (by decide) hdf ⟨rfl, by decide, by decide⟩ hY F (fun _ _ a ns hl _ hS => law_asks hl hS fun _ => rfl) fun _ _ _ _ _ z => z
end Far
open PySem PySem.W PyProof.Rows
set_option maxRecDepth 100000 in
set_option maxHeartbeats 0 in
theorem PySem.Challenge.cw_farrows_k11_spans_holds : PySem.Challenge.rw_farrows_k11_spans.Holds := by
  w_on; o_law; k_head; (case hw => w_witness2)
  k_fill
  refine Far.walk (l := PySem.Challenge.rw_farrows_k11_spans) rfl rfl (fun w h Y => PySem.W.kIn_of Y) ?F
  case F =>
    intro w mg fa h KX G hmg
    refine' Far.all_mk KX G hmg ?a_is_place ?l_is_place ?c_is_place ?k_is_place ?a_is_span ?l_is_span ?c_is_span ?k_is_span ?a_has ?l_has ?c_has ?k_has ?a_size_of ?l_size_of ?c_size_of ?k_size_of ?a_common ?l_common ?c_common ?k_common ?a_l_cell ?l_l_cell ?c_l_cell ?k_l_cell ?a_l_place ?l_l_place ?c_l_place ?k_l_place ?a_l_span ?l_l_span ?c_l_span ?k_l_span ?a_l_bad_span ?l_l_bad_span ?c_l_bad_span ?k_l_bad_span ?a_l_in ?l_l_in ?c_l_in ?k_l_in ?a_l_size ?l_l_size ?c_l_size ?k_l_size ?a_l_places ?l_l_places ?c_l_places ?k_l_places ?a_l_common_right ?l_l_common_right ?c_l_common_right ?k_l_common_right ?a_law ?l_law ?c_law ?k_law ?z_all ?z_bool ?z_int ?z_isinstance ?z_len ?z_max ?z_min ?z_range ?z_tuple
    (case a_is_place => k_is)
    (case l_is_place => k_is)
    (case c_is_place => k_is)
    (case k_is_place => k_is)
    (case a_is_span => k_is)
    (case l_is_span => k_is)
    (case c_is_span => k_is)
    (case k_is_span => k_is)
    (case a_has => k_is)
    (case l_has => k_is)
    (case c_has => k_is)
    (case k_has => k_is)
    (case a_size_of => k_is)
    (case l_size_of => k_is)
    (case c_size_of => k_is)
    (case k_size_of => k_is)
    (case a_common => k_is)
    (case l_common => k_is)
    (case c_common => k_is)
    (case k_common => k_is)
    (case a_l_cell => k_is)
    (case l_l_cell => k_is)
    (case c_l_cell => k_is)
    (case k_l_cell => k_is)
    (case a_l_place => k_is)
    (case l_l_place => k_is)
    (case c_l_place => k_is)
    (case k_l_place => k_is)
    (case a_l_span => k_is)
    (case l_l_span => k_is)
    (case c_l_span => k_is)
    (case k_l_span => k_is)
    (case a_l_bad_span => k_is)
    (case l_l_bad_span => k_is)
    (case c_l_bad_span => k_is)
    (case k_l_bad_span => k_is)
    (case a_l_in => k_is)
    (case l_l_in => k_is)
    (case c_l_in => k_is)
    (case k_l_in => k_is)
    (case a_l_size => k_is)
    (case l_l_size => k_is)
    (case c_l_size => k_is)
    (case k_l_size => k_is)
    (case a_l_places => k_is)
    (case l_l_places => k_is)
    (case c_l_places => k_is)
    (case k_l_places => k_is)
    (case a_l_common_right => k_is)
    (case l_l_common_right => k_is)
    (case c_l_common_right => k_is)
    (case k_l_common_right => k_is)
    (case a_law => k_is)
    (case l_law => k_is)
    (case c_law => k_is)
    (case k_law => k_is)
    (case z_all => k_is)
    (case z_bool => k_is)
    (case z_int => k_is)
    (case z_isinstance => k_is)
    (case z_len => k_is)
    (case z_max => k_is)
    (case z_min => k_is)
    (case z_range => k_is)
    (case z_tuple => k_is)
