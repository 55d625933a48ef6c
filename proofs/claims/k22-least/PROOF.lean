import PyProof.Rows.All
import Wide.All
import OpenK.AllK
import Wide.FinOn
import HandS.ForMost
import HandS.IsInst
import HandS.Flow
import HandS.Wide
import HandS.ExcValue
import HandS.ExcIs
import HandS.WordsExc
import HandS.TryOnly
import HandS.TupAny
import HandS.TupMul
import HandS.Deep
import HandS.RaiseMore
import HandS.SortKw
import KE.DataMinMax
import HandS.TupLe
import PyProof.FactsAll.tuple_2
import PyProof.EqAt
import PySem.Challenge.RW_farrows_k22_least_and_turned
set_option Elab.async false
set_option linter.all false
set_option maxRecDepth 100000
set_option maxHeartbeats 4000000
set_option autoImplicit false
/-! The layer of plain data over the hand layer: what a Python value IS (D), how it lies in a heap (Rp), a def's slots told as data (OK), expressions and statements told over data alone (EV, EB, SD). -/
namespace Far
open PySem L2

/-- what a value is, without the heap -/
inductive D where
  | non | bl (b : Bool) | int (i : Int) | str (x : Str) | ty (n : String) | cls (a : Addr)
  | tup (xs : List D) | lst (xs : List D) | scr (xs : List D) | ins (C : Addr) (fs : List (Str × D)) | dK (kvs : List (Key × D)) | exc (C : Addr) (fs : List (Str × D))
/-- an exception object that was caught and is kept -/
def ExK (cls : Value) (d : Option Addr) (a : Addr) : HO := .ext fun h => ∃ (oe : Obj) (vs : Array Value), h.get? a = some oe ∧ Zc cls d oe ∧ oe.data = .fields vs

section
variable (K : PySem.W.Frag) (H : Hp)
mutual
/-- v lies in H as the data d -/
inductive Rp : D → V → Prop
  | non : Rp .non .non
  | bl {b} : Rp (.bl b) (.bl b)
  | int {i} : Rp (.int i) (.int i)
  | str {x} : Rp (.str x) (.str x)
  | ty {n} : Rp (.ty n) (.ty n)
  | cls {a} : Rp (.cls a) (.ref a)
  | tup {a vs xs} : SqT K H a vs → RpL xs vs → Rp (.tup xs) (.ref a)
  | lst {a vs xs} : H a = some (.lst vs) → RpL xs vs → Rp (.lst xs) (.ref a)
  | scr {a vs xs} : SqL K H a vs → RpL xs vs → Rp (.scr xs) (.ref a)
  | ins {a dx C fs gs} : H a = some (.ins C dx gs) → RpF fs gs → Rp (.ins C fs) (.ref a)
  | dK {a fs gs} : H a = some (.dK gs) → RpK fs gs → Rp (.dK fs) (.ref a)
  | exc0 {a C} : H a = some (ExK (.ref C) none a) → Rp (.exc C []) (.ref a)
  | exc1 {a C dd fs gs} : H a = some (ExK (.ref C) (some dd) a) → H dd = some (.xd gs) → RpF fs gs → fs ≠ [] → Rp (.exc C fs) (.ref a)
  | exo {a C} : H a = some (ExO (.ref C) a) → Rp (.exc C []) (.ref a)
inductive RpL : List D → List V → Prop
  | nil : RpL [] []
  | cons {x v xs vs} : Rp x v → RpL xs vs → RpL (x :: xs) (v :: vs)
inductive RpF : List (Str × D) → List (Str × V) → Prop
  | nil : RpF [] []
  | cons {f x v xs vs} : Rp x v → RpF xs vs → RpF ((f, x) :: xs) ((f, v) :: vs)
inductive RpK : List (Key × D) → List (Key × V) → Prop
  | nil : RpK [] []
  | cons {f x v xs vs} : Rp x v → RpK xs vs → RpK ((f, x) :: xs) ((f, v) :: vs)
end
end

/-- all of H stands in H' -/
def Ex (H H' : Hp) : Prop := ∀ a o, H a = some o → H' a = some o
theorem Ex.refl (H : Hp) : Ex H H := fun _ _ h => h
theorem Ex.trans {H H1 H2 : Hp} (a : Ex H H1) (b : Ex H1 H2) : Ex H H2 := fun x o h => b x o (a x o h)
theorem Ex.new {H : Hp} {p : Addr} {o : HO} (h : H p = none) : Ex H (upd H p o) := fun a u e => by
  rw [upd_ne (ne_of_none e h)]; exact e
theorem Ex.none {H H' : Hp} {p : Addr} (e : Ex H H') (h : H' p = none) : H p = none := by
  cases h1 : H p with
  | none => rfl
  | some o => rw [e p o h1] at h; cases h
theorem Ex.rd {H H' : Hp} {a : Addr} {u : HO} (e : Ex H H') (h : Rd H a u) : Rd H' a u := by
  rcases h with h | ⟨o, h⟩
  · exact Or.inl (e a _ h)
  · exact Or.inr ⟨o, e a _ h⟩
theorem Ex.l {K : PySem.W.Frag} {H H' : Hp} {a : Addr} {xs : List V} (e : Ex H H') (h : SqL K H a xs) : SqL K H' a xs := h.imp e.rd id
theorem Ex.t {K : PySem.W.Frag} {H H' : Hp} {a : Addr} {xs : List V} (e : Ex H H') (h : SqT K H a xs) : SqT K H' a xs := h.imp e.rd id
section
variable {K : PySem.W.Frag} {H H' : Hp}
mutual
theorem Rp.mono (e : Ex H H') : ∀ {d v}, Rp K H d v → Rp K H' d v
  | _, _, .non => .non
  | _, _, .bl => .bl
  | _, _, .int => .int
  | _, _, .str => .str
  | _, _, .ty => .ty
  | _, _, .cls => .cls
  | _, _, .tup h r => .tup (e.t h) (RpL.mono e r)
  | _, _, .lst h r => .lst (e _ _ h) (RpL.mono e r)
  | _, _, .scr h r => .scr (e.l h) (RpL.mono e r)
  | _, _, .ins h r => .ins (e _ _ h) (RpF.mono e r)
  | _, _, .dK h r => .dK (e _ _ h) (RpK.mono e r)
  | _, _, .exc0 h => .exc0 (e _ _ h)
  | _, _, .exc1 h h2 r n => .exc1 (e _ _ h) (e _ _ h2) (RpF.mono e r) n
  | _, _, .exo h => .exo (e _ _ h)
theorem RpL.mono (e : Ex H H') : ∀ {d v}, RpL K H d v → RpL K H' d v
  | _, _, .nil => .nil
  | _, _, .cons h r => .cons (Rp.mono e h) (RpL.mono e r)
theorem RpF.mono (e : Ex H H') : ∀ {d v}, RpF K H d v → RpF K H' d v
  | _, _, .nil => .nil
  | _, _, .cons h r => .cons (Rp.mono e h) (RpF.mono e r)
theorem RpK.mono (e : Ex H H') : ∀ {d v}, RpK K H d v → RpK K H' d v
  | _, _, .nil => .nil
  | _, _, .cons h r => .cons (Rp.mono e h) (RpK.mono e r)
end
theorem RpL.length : ∀ {xs : List D} {vs : List V}, RpL K H xs vs → xs.length = vs.length
  | _, _, .nil => rfl
  | _, _, .cons _ r => congrArg (· + 1) r.length
theorem RpL.get : ∀ {xs : List D} {vs : List V} {i : Nat} {x : D}, RpL K H xs vs → xs[i]? = some x → ∃ v, vs[i]? = some v ∧ Rp K H x v
  | _, _, _, _, .nil, h => by simp at h
  | _, _, 0, _, .cons h _, e => by simp at e; subst e; exact ⟨_, rfl, h⟩
  | _, _, i + 1, x, .cons _ r, e => RpL.get (i := i) r (by simpa using e)
theorem RpL.getV : ∀ {xs : List D} {vs : List V} {i : Nat} {v : V}, RpL K H xs vs → vs[i]? = some v → ∃ x, xs[i]? = some x ∧ Rp K H x v
  | _, _, _, _, .nil, h => by simp at h
  | _, _, 0, _, .cons h _, e => by simp at e; subst e; exact ⟨_, rfl, h⟩
  | _, _, i + 1, x, .cons _ r, e => RpL.getV (i := i) r (by simpa using e)
theorem RpL.append : ∀ {xs ys : List D} {vs us : List V}, RpL K H xs vs → RpL K H ys us → RpL K H (xs ++ ys) (vs ++ us)
  | _, _, _, _, .nil, s => s
  | _, _, _, _, .cons h r, s => .cons h (r.append s)
theorem RpL.drop : ∀ {xs : List D} {vs : List V} (n : Nat), RpL K H xs vs → RpL K H (xs.drop n) (vs.drop n)
  | _, _, 0, r => r
  | _, _, _ + 1, .nil => .nil
  | _, _, n + 1, .cons _ r => r.drop n
theorem RpL.take : ∀ {xs : List D} {vs : List V} (n : Nat), RpL K H xs vs → RpL K H (xs.take n) (vs.take n)
  | _, _, 0, _ => .nil
  | _, _, _ + 1, .nil => .nil
  | _, _, n + 1, .cons h r => .cons h (r.take n)
theorem RpL.set {x : D} {v : V} (h : Rp K H x v) : ∀ {xs : List D} {vs : List V} (i : Nat), RpL K H xs vs → RpL K H (xs.set i x) (vs.set i v)
  | _, _, _, .nil => .nil
  | _, _, 0, .cons _ r => .cons h r
  | _, _, i + 1, .cons g r => .cons g (r.set h i)
theorem RpF.lookup {f : Str} {x : D} : ∀ {fs : List (Str × D)} {gs : List (Str × V)}, RpF K H fs gs → fs.lookup f = some x → ∃ v, gs.lookup f = some v ∧ Rp K H x v
  | _, _, .nil, h => by simp at h
  | _, _, .cons (f := g) h r, e => by
    rw [List.lookup_cons] at e ⊢
    by_cases q : (f == g) = true
    · rw [q] at e ⊢; cases e; exact ⟨_, rfl, h⟩
    · have q' : (f == g) = false := by simpa using q
      rw [q'] at e ⊢; exact r.lookup e
theorem RpF.nolook {f : Str} : ∀ {fs : List (Str × D)} {gs : List (Str × V)}, RpF K H fs gs → fs.lookup f = none → gs.lookup f = none
  | _, _, .nil, h => rfl
  | _, _, .cons (f := g) h r, e => by
    rw [List.lookup_cons] at e ⊢
    by_cases q : (f == g) = true
    · rw [q] at e; cases e
    · have q' : (f == g) = false := by simpa using q
      rw [q'] at e ⊢; exact r.nolook e
end
/-- a field stored -/
def putD (f : Str) (x : D) : List (Str × D) → List (Str × D)
  | [] => [(f, x)]
  | (g, y) :: r => if g = f then (g, x) :: r else (g, y) :: putD f x r
section
variable {K : PySem.W.Frag} {H : Hp}
theorem RpF.put {f : Str} {x : D} {v : V} (h : Rp K H x v) : ∀ {fs : List (Str × D)} {gs : List (Str × V)}, RpF K H fs gs → RpF K H (putD f x fs) (putF f v gs)
  | _, _, .nil => .cons h .nil
  | _, _, .cons (f := g) (vs := vs) q r => by
    unfold putD putF
    by_cases e : g = f
    · rw [if_pos e, if_pos e]; exact .cons h r
    · rw [if_neg e, if_neg e]; exact .cons q (r.put h)
theorem RpF.length : ∀ {fs : List (Str × D)} {gs : List (Str × V)}, RpF K H fs gs → fs.length = gs.length
  | _, _, .nil => rfl
  | _, _, .cons _ r => congrArg (· + 1) r.length
end

/-- a slot told: nothing known; data that nobody changes; a list that this frame alone holds; an instance that it alone holds -/
inductive S where
  | un | d (x : D) | own (xs : List D) | ob (a : Addr) (C : Addr) (fs : List (Str × D))

/-- He: the heap at the entry; Ge: what of it was told as data; G: what is told as data now; H: the heap now -/
def SlotOk (K : PySem.W.Frag) (He G H : Hp) : S → Option V → Prop
  | .un, _ => True
  | .d x, o => ∃ v, o = some v ∧ Rp K G x v
  | .own xs, o => ∃ p vs, o = some (.ref p) ∧ He p = none ∧ G p = none ∧ H p = some (.lst vs) ∧ RpL K G xs vs
  | .ob a C fs, o => ∃ dx gs, o = some (.ref a) ∧ He a = none ∧ G a = none ∧ He dx = none ∧ G dx = none ∧ H a = some (.ins C dx gs) ∧ H dx = some (.own a) ∧ RpF K G fs gs
def owned : S → Bool
  | .own _ => true | .ob _ _ _ => true | _ => false
structure OKG (K : PySem.W.Frag) (He Ge H G : Hp) (σ : St) (δ : List S) : Prop where
  ge : Ex Ge G
  gh : Ex G H
  he : Ex He H
  nc : ∀ b, He b ≠ none → Ge b = none → G b = none
  sl : ∀ (i : Nat) (s : S), δ[i]? = some s → ∃ o, σ[i]? = some o ∧ SlotOk K He G H s o
  ne : ∀ (i j : Nat) (s t : S) (p : Addr), i ≠ j → δ[i]? = some s → δ[j]? = some t → owned s = true → owned t = true → σ[i]? = some (some (.ref p)) → σ[j]? = some (some (.ref p)) → False
def OK (K : PySem.W.Frag) (He Ge H : Hp) (σ : St) (δ : List S) : Prop := ∃ G, OKG K He Ge H G σ δ
theorem SlotOk.mono {K : PySem.W.Frag} {He G G' H H' : Hp} {s : S} {o : Option V} (e : Ex G G') (k : ∀ p u, He p = none → G p = none → H p = some u → H' p = some u ∧ G' p = none) (h : SlotOk K He G H s o) : SlotOk K He G' H' s o := by
  cases s with
  | un => trivial
  | d x => obtain ⟨v, e1, r⟩ := h; exact ⟨v, e1, r.mono e⟩
  | own xs =>
    obtain ⟨p, vs, e1, h1, h2, h3, r⟩ := h
    obtain ⟨k1, k2⟩ := k p _ h1 h2 h3
    exact ⟨p, vs, e1, h1, k2, k1, r.mono e⟩
  | ob a C fs =>
    obtain ⟨dx, gs, e1, h1, h2, h3, h4, h5, h6, r⟩ := h
    obtain ⟨k1, k2⟩ := k a _ h1 h2 h5
    obtain ⟨k3, k4⟩ := k dx _ h3 h4 h6
    exact ⟨dx, gs, e1, h1, k2, h3, k4, k1, k3, r.mono e⟩
section
variable {K : PySem.W.Frag} {He Ge H G : Hp} {σ : St} {δ : List S}
/-- the heap grows; G grows by what is new -/
theorem OKG.grow {H' G' : Hp} (h : OKG K He Ge H G σ δ) (e : Ex H H') (g : Ex G G') (gh : Ex G' H') (nc : ∀ b, H b ≠ none → G b = none → G' b = none) : OKG K He Ge H' G' σ δ where
  ge := h.ge.trans g
  gh := gh
  he := h.he.trans e
  nc := fun b h1 h2 => nc b (fun q => h1 (h.he.none q)) (h.nc b h1 h2)
  sl := fun i s q => by
    obtain ⟨o, e1, k⟩ := h.sl i s q
    exact ⟨o, e1, k.mono g fun p u _ h2 h3 => ⟨e p u h3, nc p (by rw [h3]; exact fun z => nomatch z) h2⟩⟩
  ne := h.ne
/-- one more value on top -/
theorem OKG.push {s : S} {o : Option V} (h : OKG K He Ge H G σ δ) (k : SlotOk K He G H s o) (n : owned s = true → ∀ (j : Nat) (t : S) (p : Addr), o = some (.ref p) → δ[j]? = some t → owned t = true → σ[j]? = some (some (.ref p)) → False) : OKG K He Ge H G (o :: σ) (s :: δ) where
  ge := h.ge
  gh := h.gh
  he := h.he
  nc := h.nc
  sl := fun i t q => by
    cases i with
    | zero => simp at q; subst q; exact ⟨o, rfl, k⟩
    | succ i => simp at q; simpa using h.sl i t q
  ne := fun i j s' t p hij hi hj o1 o2 e1 e2 => by
    cases i with
    | zero =>
      cases j with
      | zero => exact hij rfl
      | succ j => simp at hi hj e1 e2; subst hi; exact n o1 j t p e1 hj o2 e2
    | succ i =>
      cases j with
      | zero => simp at hi hj e1 e2; subst hj; exact n o2 i s' p e2 hi o1 e1
      | succ j => simp at hi hj e1 e2; exact h.ne i j s' t p (fun z => hij (by rw [z])) hi hj o1 o2 e1 e2
theorem OKG.pop {s : S} {o : Option V} (h : OKG K He Ge H G (o :: σ) (s :: δ)) : OKG K He Ge H G σ δ where
  ge := h.ge
  gh := h.gh
  he := h.he
  nc := h.nc
  sl := fun i t q => by simpa using h.sl (i + 1) t (by simpa using q)
  ne := fun i j s' t p hij hi hj o1 o2 e1 e2 => h.ne (i + 1) (j + 1) s' t p (by omega) (by simpa using hi) (by simpa using hj) o1 o2 (by simpa using e1) (by simpa using e2)
theorem OKG.top {s : S} {o : Option V} (h : OKG K He Ge H G (o :: σ) (s :: δ)) : SlotOk K He G H s o := by
  obtain ⟨o', e, k⟩ := h.sl 0 s rfl
  cases e; exact k
theorem OKG.pushD {x : D} {v : V} (h : OKG K He Ge H G σ δ) (r : Rp K G x v) : OKG K He Ge H G (some v :: σ) (.d x :: δ) := h.push ⟨v, rfl, r⟩ fun z => nomatch z
/-- a new object that is data at once -/
theorem OKG.newG {p : Addr} {u : HO} (h : OKG K He Ge H G σ δ) (hp : H p = none) : OKG K He Ge (upd H p u) (upd G p u) σ δ := by
  have hg : G p = none := h.gh.none hp
  refine h.grow (.new hp) (.new hg) (fun a o e => ?_) fun b h1 h2 => ?_
  · by_cases q : a = p
    · subst q; rw [upd_same] at e ⊢; exact e
    · rw [upd_ne q] at e ⊢; exact h.gh a o e
  · rw [upd_ne (fun q => h1 (by rw [q]; exact hp))]; exact h2
/-- a new object that is not told as data -/
theorem OKG.newH {p : Addr} {u : HO} (h : OKG K He Ge H G σ δ) (hp : H p = none) : OKG K He Ge (upd H p u) G σ δ :=
  h.grow (.new hp) (.refl G) (h.gh.trans (.new hp)) fun _ _ z => z
/-- slots weaker: some forgotten -/
def weak : List S → List S → Prop := fun δ δ' => ∀ (i : Nat) (s : S), δ'[i]? = some s → δ[i]? = some s ∨ (s = .un ∧ ∃ t, δ[i]? = some t)
theorem OKG.weak {δ' : List S} (h : OKG K He Ge H G σ δ) (w : weak δ δ') : OKG K He Ge H G σ δ' where
  ge := h.ge
  gh := h.gh
  he := h.he
  nc := h.nc
  sl := fun i t q => by
    rcases w i t q with z | ⟨rfl, t, z⟩
    · exact h.sl i t z
    · obtain ⟨o, e, _⟩ := h.sl i t z
      exact ⟨o, e, trivial⟩
  ne := fun i j s' t p hij hi hj o1 o2 e1 e2 => by
    rcases w i _ hi with z | ⟨rfl, _, z⟩
    · rcases w j _ hj with z2 | ⟨rfl, _, z2⟩
      · exact h.ne i j s' t p hij z z2 o1 o2 e1 e2
      · cases o2
    · cases o1
theorem OKG.len (h : OKG K He Ge H G σ δ) : δ.length ≤ σ.length := by
  rcases Nat.lt_or_ge σ.length δ.length with q | q
  · obtain ⟨o, e, _⟩ := h.sl σ.length (δ[σ.length]) (List.getElem?_eq_getElem q)
    simp at e
  · exact q
/-- a slot is stored -/
theorem OKG.store {i : Nat} {s : S} {o : Option V} (h : OKG K He Ge H G (o :: σ) (s :: δ)) (hi : i < δ.length) : OKG K He Ge H G (σ.set i o) (δ.set i s) := by
  have hl : i < σ.length := Nat.lt_of_lt_of_le hi h.pop.len
  refine ⟨h.ge, h.gh, h.he, h.nc, fun j t q => ?_, fun j k s' t p hjk hj hk o1 o2 e1 e2 => ?_⟩
  · by_cases z : i = j
    · subst z
      rw [List.getElem?_set_self hi] at q; cases q
      rw [List.getElem?_set_self hl]
      exact ⟨o, rfl, h.top⟩
    · rw [List.getElem?_set_ne z] at q ⊢
      exact h.pop.sl j t q
  · by_cases z : i = j
    · subst z
      rw [List.getElem?_set_self hi] at hj; cases hj
      rw [List.getElem?_set_ne hjk] at hk e2
      rw [List.getElem?_set_self hl] at e1
      cases e1
      exact h.ne 0 (k + 1) s t p (by omega) rfl (by simpa using hk) o1 o2 rfl (by simpa using e2)
    · by_cases z2 : i = k
      · subst z2
        rw [List.getElem?_set_self hi] at hk; cases hk
        rw [List.getElem?_set_ne z] at hj e1
        rw [List.getElem?_set_self hl] at e2
        cases e2
        exact h.ne 0 (j + 1) s s' p (by omega) rfl (by simpa using hj) o2 o1 rfl (by simpa using e1)
      · rw [List.getElem?_set_ne z] at hj e1
        rw [List.getElem?_set_ne z2] at hk e2
        exact h.pop.ne j k s' t p hjk hj hk o1 o2 e1 e2
/-- the list on top is data from now on -/
theorem OKG.freeze {xs : List D} {o : Option V} (h : OKG K He Ge H G (o :: σ) (.own xs :: δ)) : ∃ G', OKG K He Ge H G' (o :: σ) (.d (.lst xs) :: δ) := by
  obtain ⟨p, vs, rfl, h1, h2, h3, r⟩ := h.top
  refine ⟨upd G p (.lst vs), OKG.push (OKG.mk ?_ ?_ h.he ?_ ?_ h.pop.ne) ⟨_, rfl, .lst upd_same (r.mono (.new h2))⟩ fun z => nomatch z⟩
  · exact h.ge.trans (.new h2)
  · intro a o e
    by_cases q : a = p
    · subst q; rw [upd_same] at e; cases e; exact h3
    · rw [upd_ne q] at e; exact h.gh a o e
  · intro b q1 q2
    have q : b ≠ p := fun z => q1 (by rw [z]; exact h1)
    rw [upd_ne q]; exact h.nc b q1 q2
  · intro i s q
    obtain ⟨o, e, k⟩ := h.pop.sl i s q
    refine ⟨o, e, ?_⟩
    cases s with
    | un => trivial
    | d x => obtain ⟨v, e1, r'⟩ := k; exact ⟨v, e1, r'.mono (.new h2)⟩
    | own ys =>
      obtain ⟨p', vs', rfl, k1, k2, k3, r'⟩ := k
      have ne : p' ≠ p := fun z => h.ne 0 (i + 1) _ _ p (by omega) rfl (by simpa using q) rfl rfl rfl (by rw [← z]; simpa using e)
      exact ⟨p', vs', rfl, k1, by rw [upd_ne ne]; exact k2, k3, r'.mono (.new h2)⟩
    | ob a C fs =>
      obtain ⟨dx, gs, rfl, k1, k2, k3, k4, k5, k6, r'⟩ := k
      have n1 : a ≠ p := fun z => by rw [z, h3] at k5; cases k5
      have n2 : dx ≠ p := fun z => by rw [z, h3] at k6; cases k6
      exact ⟨dx, gs, rfl, k1, by rw [upd_ne n1]; exact k2, k3, by rw [upd_ne n2]; exact k4, k5, k6, r'.mono (.new h2)⟩
/-- a list of one's own in slot i changes -/
theorem OKG.change {i : Nat} {xs ys : List D} {p : Addr} {vs us : List V} (h : OKG K He Ge H G σ δ) (hi : δ[i]? = some (.own xs)) (hp : σ[i]? = some (some (.ref p))) (hl : H p = some (.lst vs)) (r : RpL K G ys us) : OKG K He Ge (upd H p (.lst us)) G σ (δ.set i (.own ys)) := by
  obtain ⟨o, e, k⟩ := h.sl i _ hi
  obtain ⟨p', vs', e1, h1, h2, h3, r'⟩ := k
  rw [e] at hp
  cases hp
  cases e1
  have hlt : i < δ.length := (List.getElem?_eq_some_iff.mp hi).1
  refine ⟨h.ge, fun a o q => ?_, fun a o q => ?_, h.nc, fun j t q => ?_, fun j k s' t p' hjk hj hk o1 o2 e1 e2 => ?_⟩
  · rw [upd_ne (ne_of_none q h2)]; exact h.gh a o q
  · rw [upd_ne (ne_of_none q h1)]; exact h.he a o q
  · by_cases z : i = j
    · subst z
      rw [List.getElem?_set_self hlt] at q; cases q
      exact ⟨_, e, p, us, rfl, h1, h2, upd_same, r⟩
    · rw [List.getElem?_set_ne z] at q
      obtain ⟨o, eo, k⟩ := h.sl j t q
      refine ⟨o, eo, ?_⟩
      cases t with
      | un => trivial
      | d x => exact k
      | own zs =>
        obtain ⟨p2, vs2, rfl, k1, k2, k3, r2⟩ := k
        have ne : p2 ≠ p := fun y => h.ne i j _ _ p z hi q rfl rfl e (by rw [← y]; exact eo)
        exact ⟨p2, vs2, rfl, k1, k2, by rw [upd_ne ne]; exact k3, r2⟩
      | ob a C fs =>
        obtain ⟨dx, gs, rfl, k1, k2, k3, k4, k5, k6, r2⟩ := k
        have n1 : a ≠ p := fun y => by rw [y, hl] at k5; cases k5
        have n2 : dx ≠ p := fun y => by rw [y, hl] at k6; cases k6
        exact ⟨dx, gs, rfl, k1, k2, k3, k4, by rw [upd_ne n1]; exact k5, by rw [upd_ne n2]; exact k6, r2⟩
  · have un : ∀ (m : Nat) (s : S), (δ.set i (.own ys))[m]? = some s → owned s = true → ∃ s2, δ[m]? = some s2 ∧ owned s2 = true := fun m s q q2 => by
      by_cases z : i = m
      · subst z; exact ⟨_, hi, rfl⟩
      · rw [List.getElem?_set_ne z] at q; exact ⟨s, q, q2⟩
    obtain ⟨s2, q1, q2⟩ := un j _ hj o1
    obtain ⟨t2, q3, q4⟩ := un k _ hk o2
    exact h.ne j k s2 t2 p' hjk q1 q3 q2 q4 e1 e2
end
end Far
/-! Expressions, targets, sources, statements told over data alone. -/
namespace Far
open PySem L2

/-- what a def comes to: a value, or an exception of the class at c with fields -/
inductive Out where
  | ret (s : S) | exc (c : Addr) (fs : List (Str × D))
def XOk (K : PySem.W.Frag) (G H : Hp) (c : Addr) (fs : List (Str × D)) (cls : Value) (d : Option Addr) : Prop :=
  cls = .ref c ∧ ((fs = [] ∧ d = none) ∨ ∃ dd gs, d = some dd ∧ G dd = some (.xd gs) ∧ RpF K G fs gs ∧ fs ≠ [])
section
variable (K : PySem.W.Frag)
def EV (te : TE) (δ : List S) (s : S) : Prop := ∀ (He Ge H : Hp) (τo : St) (τs : List S) (σ : St), τo.length = τs.length → OK K He Ge H (τo ++ σ) (τs ++ δ) →
  ∀ Q : VK, (∀ v H', OK K He Ge H' (some v :: (τo ++ σ)) (s :: (τs ++ δ)) → Q v H') → te σ H Q
def EB (tt : TT) (δ : List S) (b : Bool) : Prop := ∀ (He Ge H : Hp) (τo : St) (τs : List S) (σ : St), τo.length = τs.length → OK K He Ge H (τo ++ σ) (τs ++ δ) →
  ∀ Q : Bool → Hp → Prop, (∀ H', OK K He Ge H' (τo ++ σ) (τs ++ δ) → Q b H') → tt σ H Q
def EA (ta : TA) (δ : List S) (xs : List D) : Prop := ∀ (He Ge H : Hp) (τo : St) (τs : List S) (σ : St), τo.length = τs.length → OK K He Ge H (τo ++ σ) (τs ++ δ) →
  ∀ Q : List V → Hp → Prop, (∀ vs H' G', OKG K He Ge H' G' (τo ++ σ) (τs ++ δ) → RpL K G' xs vs → Q vs H') → ta σ H Q
/-- a two-place operation on data -/
def RV2 (r : R2) (x y : D) (s : S) : Prop := ∀ (He Ge H G : Hp) (σ : St) (δ : List S) (v u : V), OKG K He Ge H G σ δ → Rp K G x v → Rp K G y u →
  ∀ Q : VK, (∀ z H', OK K He Ge H' (some z :: σ) (s :: δ) → Q z H') → r v u H Q
def RV1 (r : V → Hp → VK → Prop) (x : D) (s : S) : Prop := ∀ (He Ge H G : Hp) (σ : St) (δ : List S) (v : V), OKG K He Ge H G σ δ → Rp K G x v →
  ∀ Q : VK, (∀ z H', OK K He Ge H' (some z :: σ) (s :: δ) → Q z H') → r v H Q
def RVN (r : List V → Hp → VK → Prop) (xs : List D) (s : S) : Prop := ∀ (He Ge H G : Hp) (σ : St) (δ : List S) (vs : List V), OKG K He Ge H G σ δ → RpL K G xs vs →
  ∀ Q : VK, (∀ z H', OK K He Ge H' (some z :: σ) (s :: δ) → Q z H') → r vs H Q
/-- the iterator hands on the values vs, one by one, wherever G stands -/
def JIs (G : Hp) (J : It) (vs : List V) : Prop := ∀ H, Ex G H → (∀ i, i < vs.length → J.go i H) ∧ (∀ i x H', J.yld i H x H' → H' = H ∧ (i < vs.length → vs[i]? = some x)) ∧ ∀ i, vs.length ≤ i → J.stop i H
def EI (wi : TI) (δ : List S) (xs : List D) : Prop := ∀ (He Ge H : Hp) (τo : St) (τs : List S) (σ : St), τo.length = τs.length → OK K He Ge H (τo ++ σ) (τs ++ δ) →
  ∀ R : It → Hp → Prop, (∀ J H' G' vs, OKG K He Ge H' G' (τo ++ σ) (τs ++ δ) → RpL K G' xs vs → JIs G' J vs → R J H') → wi σ H R
/-- a target that takes x -/
def ET (g : TG) (δ : List S) (x : D) (δ' : List S) : Prop := ∀ (He Ge H G : Hp) (τo : St) (τs : List S) (σ : St) (v : V), τo.length = τs.length → OKG K He Ge H G (τo ++ σ) (τs ++ δ) → Rp K G x v →
  ∀ Q : St → Hp → Prop, (∀ σ', OKG K He Ge H G (τo ++ σ') (τs ++ δ') → Q σ' H) → g v σ H Q
abbrev NoS : List S → Prop := fun _ => False
abbrev NoX : List S → Addr → List (Str × D) → Prop := fun _ _ _ => False
/-- a statement over the slots δ: N the slots behind it, R what it hands back, B at a break, C at a continue, X what it raises -/
def SD (E : WX) (t : TS) (δ : List S) (N : List S → Prop) (R : S → Prop) (B C : List S → Prop) (X : List S → Addr → List (Str × D) → Prop) : Prop := ∀ (He Ge H : Hp) (σ : St) (Dn : Ends), OK K He Ge H σ δ →
  (∀ δ' σ' H', OK K He Ge H' σ' δ' → N δ' → Dn.nx σ' H') → (∀ v s σ' δ' H', OK K He Ge H' (some v :: σ') (s :: δ') → R s → Dn.rt v H') →
  (∀ δ' σ' H', OK K He Ge H' σ' δ' → B δ' → Dn.bk σ' H') → (∀ δ' σ' H', OK K He Ge H' σ' δ' → C δ' → Dn.ct σ' H') →
  (∀ c fs cls d G' σ' δ' H', OKG K He Ge H' G' σ' δ' → XOk K G' H' c fs cls d → X δ' c fs → E cls d σ' H') → t Dn σ H
/-- a def's promise told over data -/
def spD (R : List D → Out → Prop) : Sp := fun vs H Q E => ∃ G xs out, Ex G H ∧ RpL K G xs vs ∧ R xs out ∧
  (∀ v s G' H', out = .ret s → Ex G G' → Ex G' H' → Ex H H' → (∀ b, H b ≠ none → G b = none → G' b = none) → SlotOk K H G' H' s (some v) → Q v H') ∧
  (∀ c fs cls d G' H', out = .exc c fs → Ex G G' → Ex G' H' → Ex H H' → (∀ b, H b ≠ none → G b = none → G' b = none) → XOk K G' H' c fs cls d → E cls d H')
end

section
variable {K : PySem.W.Frag} {δ : List S} {te ta tb : TE} {x y z : D} {s : S}
theorem len_append {α β : Type} {a : List α} {b : List β} {c : List α} {d : List β} (h : a.length = b.length) (i : Nat) : (b ++ d)[b.length + i]? = d[i]? ∧ (a ++ c)[b.length + i]? = c[i]? := by
  constructor
  · rw [List.getElem?_append_right (Nat.le_add_right _ _), Nat.add_sub_cancel_left]
  · rw [← h, List.getElem?_append_right (Nat.le_add_right _ _), Nat.add_sub_cancel_left]
theorem ev_var {i : Nat} (h : δ[i]? = some (.d x)) : EV K (tVar i) δ (.d x) := by
  intro He Ge H τo τs σ hl ⟨G, ok⟩ Q q
  obtain ⟨e1, e2⟩ := len_append (d := δ) (c := σ) hl i
  obtain ⟨o, eo, v, rfl, r⟩ := ok.sl (τs.length + i) _ (e1.trans h)
  exact ⟨v, e2.symm.trans eo, q v H ⟨G, ok.pushD r⟩⟩
theorem ev_rp {v : V} (r : ∀ G, Rp K G x v) : EV K (tC v) δ (.d x) := by
  intro He Ge H τo τs σ hl ⟨G, ok⟩ Q q
  exact q v H ⟨G, ok.pushD (r G)⟩
theorem ev_int {i : Int} : EV K (tC (.int i)) δ (.d (.int i)) := ev_rp fun _ => .int
theorem ev_bl {b : Bool} : EV K (tC (.bl b)) δ (.d (.bl b)) := ev_rp fun _ => .bl
theorem ev_non : EV K (tC .non) δ (.d .non) := ev_rp fun _ => .non
theorem ev_str {x : Str} : EV K (tC (.str x)) δ (.d (.str x)) := ev_rp fun _ => .str
theorem ev_ty {n : String} : EV K (tC (.ty n)) δ (.d (.ty n)) := ev_rp fun _ => .ty
theorem ev_cls {a : Addr} : EV K (tC (.ref a)) δ (.d (.cls a)) := ev_rp fun _ => .cls
theorem ev_is {s' : S} (h : EV K te δ s) (e : s = s') : EV K te δ s' := e ▸ h
theorem ev_frz {xs : List D} (h : EV K te δ (.own xs)) : EV K te δ (.d (.lst xs)) := by
  intro He Ge H τo τs σ hl ok Q q
  refine h He Ge H τo τs σ hl ok _ fun v H' ⟨G', ok'⟩ => ?_
  obtain ⟨G2, ok2⟩ := ok'.freeze
  exact q v H' ⟨G2, ok2⟩
theorem ev_op {r : R2} (ha : EV K ta δ (.d x)) (hb : EV K tb δ (.d y)) (hr : RV2 K r x y s) : EV K (tOp r ta tb) δ s := by
  intro He Ge H τo τs σ hl ok Q q
  refine ha He Ge H τo τs σ hl ok _ fun v H1 ok1 => ?_
  refine hb He Ge H1 (some v :: τo) (.d x :: τs) σ (by simp [hl]) ok1 _ fun u H2 ok2 => ?_
  obtain ⟨G, ok2⟩ := ok2
  obtain ⟨_, e1, r1⟩ := ok2.top
  obtain ⟨_, e2, r2⟩ := ok2.pop.top
  cases e1; cases e2
  exact hr He Ge H2 G _ _ v u ok2.pop.pop r2 r1 Q q
theorem ev_un {r : V → Hp → VK → Prop} (ha : EV K ta δ (.d x)) (hr : RV1 K r x s) : EV K (tUn r ta) δ s := by
  intro He Ge H τo τs σ hl ok Q q
  refine ha He Ge H τo τs σ hl ok _ fun v H1 ⟨G, ok1⟩ => ?_
  obtain ⟨_, e1, r1⟩ := ok1.top
  cases e1
  exact hr He Ge H1 G _ _ v ok1.pop r1 Q q
theorem ea_nil : EA K tNil δ [] := by
  intro He Ge H τo τs σ hl ⟨G, ok⟩ Q q
  exact q [] H G ok .nil
theorem ea_cons {tr : TA} {xs : List D} (ha : EV K ta δ (.d x)) (hr : EA K tr δ xs) : EA K (tCons ta tr) δ (x :: xs) := by
  intro He Ge H τo τs σ hl ok Q q
  refine ha He Ge H τo τs σ hl ok _ fun v H1 ok1 => ?_
  refine hr He Ge H1 (some v :: τo) (.d x :: τs) σ (by simp [hl]) ok1 _ fun vs H2 G2 ok2 r2 => ?_
  obtain ⟨_, e1, r1⟩ := ok2.top
  cases e1
  exact q (v :: vs) H2 G2 ok2.pop (.cons r1 r2)
theorem ev_cb {r : List V → Hp → VK → Prop} {tr : TA} {xs : List D} (ha : EA K tr δ xs) (hr : RVN K r xs s) : EV K (tCB r tr) δ s := by
  intro He Ge H τo τs σ hl ok Q q
  exact ha He Ge H τo τs σ hl ok _ fun vs H1 G ok1 r1 => hr He Ge H1 G _ _ vs ok1 r1 Q q
/-! tests -/
variable {t u : TT} {a b : Bool}
theorem eb_test (h : EV K te δ (.d (.bl b))) : EB K (tTest te) δ b := by
  intro He Ge H τo τs σ hl ok Q q
  refine h He Ge H τo τs σ hl ok _ fun v H1 ⟨G, ok1⟩ => ?_
  obtain ⟨_, e1, r1⟩ := ok1.top
  cases e1; cases r1
  exact ⟨b, rfl, q H1 ⟨G, ok1.pop⟩⟩
theorem eb_B (h : EV K te δ (.d (.bl b))) : EB K (tB te) δ b := by
  intro He Ge H τo τs σ hl ok Q q
  refine h He Ge H τo τs σ hl ok _ fun v H1 ⟨G, ok1⟩ => ?_
  obtain ⟨_, e1, r1⟩ := ok1.top
  cases e1; cases r1
  exact ⟨b, rfl, q H1 ⟨G, ok1.pop⟩⟩
theorem eb_and (h1 : EB K t δ a) (h2 : a = true → EB K u δ b) : EB K (tAnd t u) δ (a && b) := by
  intro He Ge H τo τs σ hl ok Q q
  refine h1 He Ge H τo τs σ hl ok _ fun H1 ok1 => ?_
  cases a with
  | true => exact iteT (h2 rfl He Ge H1 τo τs σ hl ok1 Q q)
  | false => exact iteF (q H1 ok1)
theorem eb_or (h1 : EB K t δ a) (h2 : a = false → EB K u δ b) : EB K (tOr t u) δ (a || b) := by
  intro He Ge H τo τs σ hl ok Q q
  refine h1 He Ge H τo τs σ hl ok _ fun H1 ok1 => ?_
  cases a with
  | true => exact iteT (q H1 ok1)
  | false => exact iteF (h2 rfl He Ge H1 τo τs σ hl ok1 Q q)
theorem eb_not (h1 : EB K t δ a) : EB K (tNot t) δ (!a) := by
  intro He Ge H τo τs σ hl ok Q q
  exact h1 He Ge H τo τs σ hl ok _ fun H1 ok1 => q H1 ok1
theorem eb_is (h : EB K t δ a) (e : a = b) : EB K t δ b := e ▸ h
/-- a test whose value alone is asked in one way (short) -/
theorem eb_andF (h1 : EB K t δ false) : EB K (tAnd t u) δ false := eb_and (b := false) h1 fun z => nomatch z
theorem eb_orT (h1 : EB K t δ true) : EB K (tOr t u) δ true := eb_or (b := false) h1 fun z => nomatch z
theorem ev_andV (h1 : EV K ta δ (.d (.bl a))) (h2 : a = true → EV K tb δ (.d (.bl b))) : EV K (tAndV ta tb) δ (.d (.bl (a && b))) := by
  intro He Ge H τo τs σ hl ok Q q
  refine h1 He Ge H τo τs σ hl ok _ fun v H1 ⟨G, ok1⟩ => ?_
  obtain ⟨_, e1, r1⟩ := ok1.top
  cases e1; cases r1
  refine ⟨a, rfl, ?_⟩
  cases a with
  | true => exact iteT (h2 rfl He Ge H1 τo τs σ hl ⟨G, ok1.pop⟩ Q q)
  | false => exact iteF (q _ H1 ⟨G, ok1⟩)
theorem ev_orV (h1 : EV K ta δ (.d (.bl a))) (h2 : a = false → EV K tb δ (.d (.bl b))) : EV K (tOrV ta tb) δ (.d (.bl (a || b))) := by
  intro He Ge H τo τs σ hl ok Q q
  refine h1 He Ge H τo τs σ hl ok _ fun v H1 ⟨G, ok1⟩ => ?_
  obtain ⟨_, e1, r1⟩ := ok1.top
  cases e1; cases r1
  refine ⟨a, rfl, ?_⟩
  cases a with
  | true => exact iteT (q _ H1 ⟨G, ok1⟩)
  | false => exact iteF (h2 rfl He Ge H1 τo τs σ hl ⟨G, ok1.pop⟩ Q q)
theorem ev_notV (h1 : EV K ta δ (.d (.bl a))) : EV K (tNotV ta) δ (.d (.bl (!a))) := by
  intro He Ge H τo τs σ hl ok Q q
  refine h1 He Ge H τo τs σ hl ok _ fun v H1 ⟨G, ok1⟩ => ?_
  obtain ⟨_, e1, r1⟩ := ok1.top
  cases e1; cases r1
  exact ⟨a, rfl, q _ H1 ⟨G, ok1.pop.pushD .bl⟩⟩
theorem ev_if {s1 s2 : S} (h : EB K t δ b) (h1 : b = true → EV K ta δ s1) (h2 : b = false → EV K tb δ s2) : EV K (tIf t ta tb) δ (if b = true then s1 else s2) := by
  intro He Ge H τo τs σ hl ok Q q
  refine h He Ge H τo τs σ hl ok _ fun H1 ok1 => ?_
  cases b with
  | true => exact iteT (h1 rfl He Ge H1 τo τs σ hl ok1 Q q)
  | false => exact iteF (h2 rfl He Ge H1 τo τs σ hl ok1 Q q)
/-- .. both ways to one thing -/
theorem ev_if1 (h : EB K t δ b) (h1 : b = true → EV K ta δ s) (h2 : b = false → EV K tb δ s) : EV K (tIf t ta tb) δ s := by
  intro He Ge H τo τs σ hl ok Q q
  refine h He Ge H τo τs σ hl ok _ fun H1 ok1 => ?_
  cases b with
  | true => exact iteT (h1 rfl He Ge H1 τo τs σ hl ok1 Q q)
  | false => exact iteF (h2 rfl He Ge H1 τo τs σ hl ok1 Q q)
/-! displays -/
theorem ev_tup {tr : TA} {xs : List D} (h : EA K tr δ xs) (hz : xs.length ≤ sizeLine) : EV K (tTup tr) δ (.d (.tup xs)) := by
  intro He Ge H τo τs σ hl ok Q q
  refine h He Ge H τo τs σ hl ok _ fun vs H1 G ok1 r1 => ⟨by rw [← r1.length]; exact hz, fun p hp => ?_⟩
  exact q _ _ ⟨_, (ok1.newG hp).pushD (.tup (SqT.of upd_same) (r1.mono (.new (ok1.gh.none hp))))⟩
theorem OKG.newOwn {He Ge H G : Hp} {σ : St} {δ : List S} {p : Addr} {xs : List D} {vs : List V} (ok : OKG K He Ge H G σ δ) (hp : H p = none) (r : RpL K G xs vs) : OKG K He Ge (upd H p (.lst vs)) G (some (.ref p) :: σ) (.own xs :: δ) := by
  refine (ok.newH hp).push ⟨p, vs, rfl, ok.he.none hp, ok.gh.none hp, upd_same, r⟩ fun _ j t p' e hj ho eσ => ?_
  cases e
  obtain ⟨o, eo, k⟩ := ok.sl j t hj
  rw [eo] at eσ
  cases eσ
  cases t with
  | un => cases ho
  | d x => cases ho
  | own ys => obtain ⟨p', vs', e, _, _, h3, _⟩ := k; cases e; rw [hp] at h3; cases h3
  | ob a C fs => obtain ⟨dx, gs, e, _, _, _, _, h5, _⟩ := k; cases e; rw [hp] at h5; cases h5
theorem ev_lst {tr : TA} {xs : List D} (h : EA K tr δ xs) (hz : xs.length ≤ sizeLine) : EV K (tLst tr) δ (.own xs) := by
  intro He Ge H τo τs σ hl ok Q q
  refine h He Ge H τo τs σ hl ok _ fun vs H1 G ok1 r1 => ⟨by rw [← r1.length]; exact hz, fun p hp => ?_⟩
  exact q _ _ ⟨_, ok1.newOwn hp r1⟩
/-! calls -/
theorem ev_call {R : List D → Out → Prop} {E : XK} {tr : TA} {xs : List D} (h : EA K tr δ xs) (hr : R xs (.ret s)) : EV K (tCall (spD K R) [] E tr) δ s := by
  intro He Ge H τo τs σ hl ok Q q
  refine h He Ge H τo τs σ hl ok _ fun vs H1 G ok1 r1 => ?_
  refine ⟨G, xs, .ret s, ok1.gh, by simpa using r1, hr, fun v s' G' H' e g1 g2 g3 nc k => ?_, fun c fs cls d G' H' e => nomatch e⟩
  cases e
  refine q v H' ⟨G', (ok1.grow g3 g1 g2 nc).push ?_ fun ho j t p e hj hoj eσ => ?_⟩
  · cases s with
    | un => trivial
    | d x => exact k
    | own ys => obtain ⟨p, us, e, h1, h2, h3, r⟩ := k; exact ⟨p, us, e, ok1.he.none h1, h2, h3, r⟩
    | ob a C fs => obtain ⟨dx, gs, e, h1, h2, h3, h4, h5, h6, r⟩ := k; exact ⟨dx, gs, e, ok1.he.none h1, h2, ok1.he.none h3, h4, h5, h6, r⟩
  · cases e
    have hn : H1 p = none := by
      cases s with
      | un => cases ho
      | d x => cases ho
      | own ys => obtain ⟨p', us, e, h1, _⟩ := k; cases e; exact h1
      | ob a C fs => obtain ⟨dx, gs, e, h1, _⟩ := k; cases e; exact h1
    obtain ⟨o, eo, k2⟩ := ok1.sl j t hj
    rw [eo] at eσ
    cases eσ
    cases t with
    | un => cases hoj
    | d x => cases hoj
    | own ys => obtain ⟨p', vs', e, _, _, h3, _⟩ := k2; cases e; rw [hn] at h3; cases h3
    | ob a C fs => obtain ⟨dx, gs, e, _, _, _, _, h5, _⟩ := k2; cases e; rw [hn] at h5; cases h5
/-! targets, sources -/
theorem set_off {α : Type} (a b : List α) (i : Nat) (o : α) : (a ++ b).set (a.length + i) o = a ++ b.set i o := by
  rw [List.set_append_right _ _ (Nat.le_add_right _ _), Nat.add_sub_cancel_left]
theorem et_name {i : Nat} (hi : i < δ.length) : ET K (gName i) δ x (δ.set i (.d x)) := by
  intro He Ge H G τo τs σ v hl ok r Q q
  refine q _ ?_
  have k := (ok.pushD r).store (i := τs.length + i) (by rw [List.length_append]; omega)
  rw [set_off τs, ← hl, set_off τo] at k
  exact k
end
end Far
/-! Sources, comprehensions, statements, loops, defs told over data. -/
namespace Far
open PySem L2
section
variable {K : PySem.W.Frag} {δ : List S} {te ta tb : TE} {x y z : D} {s : S} {xs : List D}
/-! ### sources -/
theorem jis_list {G : Hp} {a : Addr} {vs : List V} (h : SqL K G a vs) (inj : ∀ H ys, Ex G H → SqL K H a ys → ys = vs) : JIs G (Itl K a) vs := fun H e =>
  ⟨fun i hi => ⟨vs, vs[i], e.l h, List.getElem?_eq_getElem hi⟩, fun i x H' q => ⟨q.1, fun hi => q.2 vs (e.l h)⟩, fun i hi => ⟨vs, e.l h, hi⟩⟩
theorem ei_list (h : EV K te δ (.d (.lst xs))) : EI K (iList K te) δ xs := by
  intro He Ge H τo τs σ hl ok R q
  refine h He Ge H τo τs σ hl ok _ fun v H1 ⟨G, ok1⟩ => ?_
  obtain ⟨_, e1, r1⟩ := ok1.top
  cases e1
  cases r1 with
  | lst hp r =>
    exact ⟨_, rfl, ⟨_, SqL.of (ok1.gh _ _ hp)⟩, q _ H1 G _ ok1.pop r (fun H e => ⟨fun i hi => ⟨_, _, SqL.of (e _ _ hp), List.getElem?_eq_getElem hi⟩, fun i x H' q => ⟨q.1, fun hi => q.2 _ (SqL.of (e _ _ hp))⟩, fun i hi => ⟨_, SqL.of (e _ _ hp), hi⟩⟩)⟩
theorem ei_tup (h : EV K te δ (.d (.tup xs))) : EI K (iTup K te) δ xs := by
  intro He Ge H τo τs σ hl ok R q
  refine h He Ge H τo τs σ hl ok _ fun v H1 ⟨G, ok1⟩ => ?_
  obtain ⟨_, e1, r1⟩ := ok1.top
  cases e1
  cases r1 with
  | tup hp r =>
    exact ⟨_, rfl, ⟨_, ok1.gh.t hp⟩, q _ H1 G _ ok1.pop r (fun H e => ⟨fun i hi => ⟨_, _, e.t hp, List.getElem?_eq_getElem hi⟩, fun i x H' q => ⟨q.1, fun hi => q.2 _ (e.t hp)⟩, fun i hi => ⟨_, e.t hp, hi⟩⟩)⟩
/-- lo, lo + 1, .. -/
def rg (lo : Int) (n : Nat) : List D := (List.range n).map fun (i : Nat) => D.int (lo + (i : Int))
def rgV (lo : Int) (n : Nat) : List V := (List.range n).map fun (i : Nat) => V.int (lo + (i : Int))
theorem rp_ints {G : Hp} {α : Type} (f : α → Int) : ∀ l : List α, RpL K G (l.map fun i => D.int (f i)) (l.map fun i => V.int (f i))
  | [] => .nil
  | _ :: r => .cons .int (rp_ints f r)
theorem jis_rng {G : Hp} {lo : Int} {n : Nat} : JIs G (Itr lo n) (rgV lo n) := fun H e =>
  ⟨fun i hi => by show i < n; simpa [rgV] using hi, fun i x H' q => ⟨q.1, fun hi => by
    have hi' : i < n := by simpa [rgV] using hi
    rw [q.2]; unfold rgV; rw [List.getElem?_map, List.getElem?_range hi']; rfl⟩, fun i hi => by show n ≤ i; simpa [rgV] using hi⟩
theorem ei_rng1 {n : Int} {tr : TA} (h : EA K tr δ [.int n]) (h1 : -(2 ^ 62) ≤ n) (h2 : n < 2 ^ 62) : EI K (iRng1 tr) δ (rg 0 n.toNat) := by
  intro He Ge H τo τs σ hl ok R q
  refine h He Ge H τo τs σ hl ok _ fun vs H1 G ok1 r1 => ?_
  cases r1 with
  | cons r1 r2 => cases r1; cases r2; exact ⟨n, rfl, h1, h2, q _ H1 G _ ok1 (rp_ints _ _) jis_rng⟩
theorem ei_rng2 {m n : Int} {tr : TA} (h : EA K tr δ [.int m, .int n]) (h1 : -(2 ^ 62) ≤ m ∧ m < 2 ^ 62 ∧ -(2 ^ 62) ≤ n ∧ n < 2 ^ 62) : EI K (iRng2 tr) δ (rg m (n - m).toNat) := by
  intro He Ge H τo τs σ hl ok R q
  refine h He Ge H τo τs σ hl ok _ fun vs H1 G ok1 r1 => ?_
  cases r1 with
  | cons r1 r2 =>
    cases r1
    cases r2 with
    | cons r2 r3 => cases r2; cases r3; exact ⟨m, n, rfl, h1, q _ H1 G _ ok1 (rp_ints _ _) jis_rng⟩
theorem ei_is {wi : TI} {ys : List D} (h : EI K wi δ xs) (e : xs = ys) : EI K wi δ ys := e ▸ h

/-! ### targets -/
end
inductive ETs (K : PySem.W.Frag) : TGs → List S → List D → List S → Prop
  | nil {δ : List S} : ETs K gNil δ [] δ
  | cons {g : TG} {gs : TGs} {δ : List S} {x : D} {xs : List D} {δ1 δ2 : List S} : ET K g δ x δ1 → ETs K gs δ1 xs δ2 → ETs K (gCons g gs) δ (x :: xs) δ2
section
variable {K : PySem.W.Frag} {δ : List S} {te ta tb : TE} {x y z : D} {s : S} {xs : List D}
theorem ets_run {gs : TGs} {δ δ' : List S} {xs : List D} (h : ETs K gs δ xs δ') : ∀ (He Ge H G : Hp) (τo : St) (τs : List S) (σ : St) (vs : List V), τo.length = τs.length → OKG K He Ge H G (τo ++ σ) (τs ++ δ) → RpL K G xs vs →
    ∀ Q : St → Hp → Prop, (∀ σ', OKG K He Ge H G (τo ++ σ') (τs ++ δ') → Q σ' H) → gs vs σ H Q := by
  induction h with
  | nil => intro He Ge H G τo τs σ vs hl ok r Q q; cases r; exact ⟨rfl, q σ ok⟩
  | cons h1 _ ih =>
    intro He Ge H G τo τs σ vs hl ok r Q q
    cases r with
    | cons r1 r2 => exact ⟨_, _, rfl, h1 He Ge H G τo τs σ _ hl ok r1 _ fun σ' ok' => ih He Ge H G τo τs σ' _ hl ok' r2 Q q⟩
theorem et_tup {n : Nat} {gs : TGs} {δ' : List S} (h : ETs K gs δ xs δ') (hn : xs.length = n) : ET K (gTup K n gs) δ (.tup xs) δ' := by
  intro He Ge H G τo τs σ v hl ok r Q q
  cases r with
  | tup hp r => exact ⟨_, _, rfl, ok.gh.t hp, by rw [← r.length]; exact hn, ets_run h He Ge H G τo τs σ _ hl ok r Q q⟩
theorem et_lst {n : Nat} {gs : TGs} {δ' : List S} (h : ETs K gs δ xs δ') (hn : xs.length = n) : ET K (gLst K n gs) δ (.lst xs) δ' := by
  intro He Ge H G τo τs σ v hl ok r Q q
  cases r with
  | lst hp r => exact ⟨_, _, rfl, SqL.of (ok.gh _ _ hp), by rw [← r.length]; exact hn, ets_run h He Ge H G τo τs σ _ hl ok r Q q⟩

/-! ### comprehensions -/
theorem wipe_get {σ : St} : ∀ (vs : List Nat) (j : Nat), (wipe σ vs)[j]? = if j ∈ vs ∧ j < σ.length then some none else σ[j]?
  | [], j => by simp [wipe]
  | v :: vs, j => by
    unfold wipe
    by_cases h : v = j
    · subst h
      by_cases hl : v < σ.length
      · rw [List.getElem?_set_self (by rw [wipe_length]; exact hl)]; simp [hl]
      · rw [List.getElem?_eq_none (by rw [List.length_set, wipe_length]; omega)]
        simp [hl]
    · rw [List.getElem?_set_ne h, wipe_get vs j]
      have : j ∈ v :: vs ↔ j ∈ vs := by simp [Ne.symm h]
      simp only [this]
theorem wipe_set {σ : St} {i : Nat} {o : Option V} {vs : List Nat} (h : i ∈ vs) : wipe (σ.set i o) vs = wipe σ vs := by
  apply List.ext_getElem?
  intro j
  rw [wipe_get, wipe_get, List.length_set]
  by_cases hj : j ∈ vs ∧ j < σ.length
  · rw [if_pos hj, if_pos hj]
  · rw [if_neg hj, if_neg hj]
    by_cases e : i = j
    · subst e
      have hl : ¬ i < σ.length := fun q => hj ⟨h, q⟩
      rw [List.getElem?_eq_none (by rw [List.length_set]; omega), List.getElem?_eq_none (by omega)]
    · rw [List.getElem?_set_ne e]
theorem wipe_wipe {σ : St} {vs : List Nat} : wipe (wipe σ vs) vs = wipe σ vs := by
  apply List.ext_getElem?
  intro j
  rw [wipe_get, wipe_length]
  by_cases hj : j ∈ vs ∧ j < σ.length
  · rw [if_pos hj, wipe_get, if_pos hj]
  · rw [if_neg hj]
/-- a target that stores in vs alone -/
def GOk (g : TG) (vs : List Nat) : Prop := ∀ v σ H Q, g v σ H Q → g v σ H fun σ' H' => wipe σ' vs = wipe σ vs ∧ Q σ' H'
theorem gok_name {i : Nat} {vs : List Nat} (h : i ∈ vs) : GOk (gName i) vs := fun v σ H Q q => ⟨wipe_set h, q⟩
def GsOk (g : TGs) (vs : List Nat) : Prop := ∀ v σ H Q, g v σ H Q → g v σ H fun σ' H' => wipe σ' vs = wipe σ vs ∧ Q σ' H'
theorem gsok_nil {vs : List Nat} : GsOk gNil vs := fun v σ H Q q => ⟨q.1, rfl, q.2⟩
theorem gsok_name {i : Nat} {gs : TGs} {vs : List Nat} (h : i ∈ vs) (h2 : GsOk gs vs) : GsOk (gCons (gName i) gs) vs := fun v σ H Q ⟨a, r, e, q⟩ => ⟨a, r, e, by
  have z := h2 r (σ.set i (some a)) H Q q
  rw [wipe_set h] at z
  exact z⟩
theorem gok_tup {n : Nat} {gs : TGs} {vs : List Nat} (h : GsOk gs vs) : GOk (gTup K n gs) vs := fun v σ H Q ⟨a, xs, e, h1, h2, q⟩ => ⟨a, xs, e, h1, h2, h xs σ H Q q⟩
/-- what a comprehension's block sees of the slots -/
def hideS : S → S
  | .own _ => .un | .ob _ _ _ => .un | s => s
def hide (δ : List S) (vs : List Nat) : List S := vs.foldr (fun v δ => δ.set v .un) (δ.map hideS)
theorem hide_len (δ : List S) : ∀ vs : List Nat, (hide δ vs).length = δ.length
  | [] => by simp [hide]
  | v :: vs => by show ((hide δ vs).set v .un).length = _; rw [List.length_set, hide_len δ vs]
theorem hide_get (δ : List S) : ∀ (vs : List Nat) (j : Nat) (s : S), (hide δ vs)[j]? = some s → (s = .un ∧ j < δ.length) ∨ (j ∉ vs ∧ owned s = false ∧ δ[j]? = some s)
  | [], j, s, h => by
    simp only [hide, List.foldr_nil, List.getElem?_map, Option.map_eq_some_iff] at h
    obtain ⟨t, e, rfl⟩ := h
    have hl : j < δ.length := (List.getElem?_eq_some_iff.mp e).1
    cases t with
    | un => exact .inl ⟨rfl, hl⟩
    | d x => exact .inr ⟨by simp, rfl, e⟩
    | own xs => exact .inl ⟨rfl, hl⟩
    | ob a C fs => exact .inl ⟨rfl, hl⟩
  | v :: vs, j, s, h => by
    have h' : ((hide δ vs).set v .un)[j]? = some s := h
    by_cases e : v = j
    · subst e
      have hl : v < (hide δ vs).length := by
        have := (List.getElem?_eq_some_iff.mp h').1
        rwa [List.length_set] at this
      rw [List.getElem?_set_self hl] at h'
      cases h'
      exact .inl ⟨rfl, by rwa [hide_len] at hl⟩
    · rw [List.getElem?_set_ne e] at h'
      rcases hide_get δ vs j s h' with z | ⟨z1, z2⟩
      · exact .inl z
      · exact .inr ⟨by simp [z1, Ne.symm e], z2⟩
/-- the block's own view stands beside the def's -/
theorem OKG.block {He Ge H G : Hp} {τo : St} {τs : List S} {σ : St} {vs : List Nat} (ok : OKG K He Ge H G (τo ++ σ) (τs ++ δ)) (hl : τo.length = τs.length) : OKG K He Ge H G ((τo ++ σ) ++ wipe σ vs) ((τs ++ (δ ++ List.replicate (σ.length - δ.length) .un)) ++ hide δ vs) := by
  have hd : δ.length ≤ σ.length := by have := ok.len; simp only [List.length_append] at this; omega
  have hL : (τo ++ σ).length = (τs ++ (δ ++ List.replicate (σ.length - δ.length) S.un)).length := by simp only [List.length_append, List.length_replicate]; omega
  have lo : ∀ (i : Nat) (s : S), i < (τo ++ σ).length → ((τs ++ (δ ++ List.replicate (σ.length - δ.length) S.un)) ++ hide δ vs)[i]? = some s → (τs ++ δ)[i]? = some s ∨ s = .un := fun i s hi h => by
    rw [List.getElem?_append_left (by rw [← hL]; exact hi), ← List.append_assoc] at h
    rcases Nat.lt_or_ge i (τs ++ δ).length with q | q
    · rw [List.getElem?_append_left q] at h; exact .inl h
    · rw [List.getElem?_append_right q] at h
      exact .inr (by
        have := List.mem_of_getElem? h
        exact List.eq_of_mem_replicate this)
  have hi : ∀ (i : Nat) (s : S), (τo ++ σ).length ≤ i → ((τs ++ (δ ++ List.replicate (σ.length - δ.length) S.un)) ++ hide δ vs)[i]? = some s → owned s = false ∧ ∃ o, ((τo ++ σ) ++ wipe σ vs)[i]? = some o ∧ SlotOk K He G H s o := fun i s q h => by
    rw [List.getElem?_append_right (by rw [← hL]; exact q), ← hL] at h
    rw [List.getElem?_append_right q]
    rcases hide_get δ vs _ s h with ⟨rfl, z⟩ | ⟨z1, z2, z3⟩
    · refine ⟨rfl, (wipe σ vs)[i - (τo ++ σ).length]'(by rw [wipe_length]; omega), List.getElem?_eq_getElem _, trivial⟩
    · obtain ⟨o, eo, k⟩ := ok.sl (τs.length + (i - (τo ++ σ).length)) s ((len_append (c := σ) (d := δ) hl _).1.trans z3)
      rw [(len_append (c := σ) (d := δ) hl _).2] at eo
      refine ⟨z2, o, ?_, k⟩
      rw [wipe_get, if_neg (fun q => z1 q.1)]; exact eo
  refine ⟨ok.ge, ok.gh, ok.he, ok.nc, fun i s h => ?_, fun i j s t p hij hi' hj o1 o2 e1 e2 => ?_⟩
  · rcases Nat.lt_or_ge i (τo ++ σ).length with q | q
    · rcases lo i s q h with z | rfl
      · obtain ⟨o, eo, k⟩ := ok.sl i s z
        exact ⟨o, by rw [List.getElem?_append_left q]; exact eo, k⟩
      · exact ⟨(τo ++ σ)[i], by rw [List.getElem?_append_left q]; exact List.getElem?_eq_getElem q, trivial⟩
    · exact (hi i s q h).2
  · rcases Nat.lt_or_ge i (τo ++ σ).length with q | q
    · rcases Nat.lt_or_ge j (τo ++ σ).length with q2 | q2
      · rw [List.getElem?_append_left q] at e1
        rw [List.getElem?_append_left q2] at e2
        rcases lo i s q hi' with z | rfl
        · rcases lo j t q2 hj with z2 | rfl
          · exact ok.ne i j s t p hij z z2 o1 o2 e1 e2
          · cases o2
        · cases o1
      · rw [(hi j t q2 hj).1] at o2; cases o2
    · rw [(hi i s q hi').1] at o1; cases o1
/-- back from the block -/
theorem OKG.unblock {He Ge H G : Hp} {α σ2 : St} {τs : List S} {n : Nat} {δ2 : List S} (ok : OKG K He Ge H G (α ++ σ2) ((τs ++ (δ ++ List.replicate n .un)) ++ δ2)) (hl : α.length = (τs ++ (δ ++ List.replicate n S.un)).length) : OKG K He Ge H G α (τs ++ δ) := by
  have lt : ∀ (i : Nat) (s : S), (τs ++ δ)[i]? = some s → i < α.length ∧ ((τs ++ (δ ++ List.replicate n S.un)) ++ δ2)[i]? = some s := fun i s h => by
    have q := (List.getElem?_eq_some_iff.mp h).1
    have q2 : i < (τs ++ (δ ++ List.replicate n S.un)).length := by simp only [List.length_append] at q ⊢; omega
    refine ⟨by rw [hl]; exact q2, ?_⟩
    rw [List.getElem?_append_left q2, ← List.append_assoc, List.getElem?_append_left q]; exact h
  refine ⟨ok.ge, ok.gh, ok.he, ok.nc, fun i s h => ?_, fun i j s t p hij hi hj o1 o2 e1 e2 => ?_⟩
  · obtain ⟨q, h2⟩ := lt i s h
    obtain ⟨o, eo, k⟩ := ok.sl i s h2
    exact ⟨o, by rwa [List.getElem?_append_left q] at eo, k⟩
  · obtain ⟨q1, h1⟩ := lt i s hi
    obtain ⟨q2, h2⟩ := lt j t hj
    exact ok.ne i j s t p hij h1 h2 o1 o2 (by rw [List.getElem?_append_left q1]; exact e1) (by rw [List.getElem?_append_left q2]; exact e2)
/-- the ground moved up: what is data now stays data -/
theorem OKG.ground {He Ge H G : Hp} {σ : St} {δ : List S} (ok : OKG K He Ge H G σ δ) : OKG K He G H G σ δ := ⟨.refl G, ok.gh, ok.he, fun _ _ z => z, ok.sl, ok.ne⟩
theorem OKG.unground {He Ge H H' G G' : Hp} {σ σ' : St} {δ δ' : List S} (ok : OKG K He Ge H G σ δ) (ok' : OKG K He G H' G' σ' δ') : OKG K He Ge H' G' σ' δ' := ⟨ok.ge.trans ok'.ge, ok'.gh, ok'.he, fun b h1 h2 => ok'.nc b h1 (ok.nc b h1 h2), ok'.sl, ok'.ne⟩

theorem ev_lc {α : Type} {ys : List α} {h : α → D} {p : α → Bool} {f : α → D} {wi : TI} {g : TG} {tt : TT} {vs : List Nat} (hi : EI K wi δ (ys.map h)) (hg : GOk g vs) (hz : ys.length ≤ sizeLine)
    (k : ∀ y ∈ ys, ∃ δ2, ET K g (hide δ vs) (h y) δ2 ∧ EB K tt δ2 (p y) ∧ (p y = true → EV K te δ2 (.d (f y)))) : EV K (tLc wi g tt te vs) δ (.own ((ys.filter p).map f)) := by
  intro He Ge H τo τs σ hl ok Q q
  refine hi He Ge H τo τs σ hl ok _ fun J H1 G us ok1 r1 jis => ?_
  intro Dp hD
  have okD := (ok1.newOwn (xs := []) (vs := []) hD .nil).ground
  have lus : us.length = ys.length := by rw [← r1.length, List.length_map]
  -- behind i turns: the list at Dp is what was made of the first i
  refine ⟨fun i m H2 => i + m = us.length ∧ OK K He G H2 (some (.ref Dp) :: (τo ++ σ)) (.own (((ys.take i).filter p).map f) :: (τs ++ δ)), ⟨us.length, by omega, G, okD⟩, fun i m H2 ⟨em, G2, ok2⟩ => ?_⟩
  obtain ⟨j1, j2, j3⟩ := jis H2 (ok2.ge.trans ok2.gh)
  rcases Nat.lt_or_ge i us.length with hlt | hge
  · have hy : i < ys.length := by omega
    have ey : ys[i]? = some ys[i] := List.getElem?_eq_getElem hy
    have ex : (ys.map h)[i]? = some (h ys[i]) := by rw [List.getElem?_map, ey]; rfl
    obtain ⟨v, ev, rv⟩ := r1.get ex
    have tk : ys.take (i + 1) = ys.take i ++ [ys[i]] := by rw [List.take_add_one, ey]; rfl
    refine .inr ⟨j1 i hlt, fun H3 => OK K He G H3 (some (.ref Dp) :: (τo ++ σ)) (.own (((ys.take (i + 1)).filter p).map f) :: (τs ++ δ)), fun H3 k3 => ⟨m - 1, by omega, by omega, k3⟩, fun x H3 hx => ?_⟩
    obtain ⟨e3, e4⟩ := j2 i x H3 hx
    subst e3
    have exv : x = v := Option.some.inj ((e4 hlt).symm.trans ev)
    subst exv
    obtain ⟨δ2, kt, kb, ke⟩ := k ys[i] (List.getElem_mem hy)
    have hd : δ.length ≤ σ.length := by have := ok1.len; simp only [List.length_append] at this; omega
    have hL : ((some (V.ref Dp) :: τo) ++ σ).length = ((S.own (((ys.take i).filter p).map f) :: τs) ++ (δ ++ List.replicate (σ.length - δ.length) S.un)).length := by
      simp only [List.length_append, List.length_cons, List.length_replicate]; omega
    have okB := OKG.block (vs := vs) (τo := some (.ref Dp) :: τo) (τs := .own (((ys.take i).filter p).map f) :: τs) (σ := σ) (δ := δ) ok2 (by simp [hl])
    have z := hg x (wipe σ vs) H3 _ (kt He G H3 G2 _ _ (wipe σ vs) x hL okB (rv.mono ok2.ge) (fun σ2 H4 => tt σ2 H4 fun b H5 => if b = true then te σ2 H5 fun y H6 => ∃ acc, H6 Dp = some (.lst acc) ∧ acc.length < sizeLine ∧ OK K He G (upd H6 Dp (.lst (acc ++ [y]))) (some (.ref Dp) :: (τo ++ σ)) (.own (((ys.take (i + 1)).filter p).map f) :: (τs ++ δ)) else OK K He G H5 (some (.ref Dp) :: (τo ++ σ)) (.own (((ys.take (i + 1)).filter p).map f) :: (τs ++ δ))) fun σ2 ok3 => ?_)
    · rw [wipe_wipe] at z; exact z
    · refine kb He G H3 _ _ σ2 hL ⟨G2, ok3⟩ _ fun H4 ok4 => ?_
      cases hp : p ys[i] with
      | false =>
        refine iteF ?_
        obtain ⟨G4, ok4⟩ := ok4
        have e : ((ys.take (i + 1)).filter p).map f = ((ys.take i).filter p).map f := by rw [tk, List.filter_append]; simp [hp]
        rw [e]
        exact ⟨G4, ok4.unblock hL⟩
      | true =>
        refine iteT (ke hp He G H4 _ _ σ2 hL ok4 _ fun w H5 ⟨G5, ok5⟩ => ?_)
        have ok6 := OKG.unblock (α := some w :: ((some (.ref Dp) :: τo) ++ σ)) (σ2 := σ2) (τs := .d (f ys[i]) :: (S.own (((ys.take i).filter p).map f) :: τs)) (n := σ.length - δ.length) (δ2 := δ2) ok5 (by simp only [List.length_cons]; exact congrArg (· + 1) (by simpa using hL))
        obtain ⟨o, eo, pp, acc, e1, _, _, h3, r3⟩ := ok6.sl 1 _ rfl
        cases eo; cases e1
        obtain ⟨w', e2, rw_⟩ := ok6.top
        cases e2
        have hacc : acc.length ≤ i := by
          rw [← r3.length, List.length_map]
          exact Nat.le_trans (List.length_filter_le _ _) (by rw [List.length_take]; omega)
        refine ⟨acc, h3, by omega, G5, ?_⟩
        have e : ((ys.take (i + 1)).filter p).map f = ((ys.take i).filter p).map f ++ [f ys[i]] := by rw [tk, List.filter_append]; simp [hp]
        rw [e]
        exact (OKG.change (i := 1) ok6 rfl rfl h3 (r3.append (.cons rw_ .nil))).pop
  · refine .inl ⟨j3 i hge, ?_⟩
    have e : ys.take i = ys := List.take_of_length_le (by omega)
    rw [e] at ok2
    exact q _ H2 ⟨G2, ok1.unground ok2⟩
/-! ### statements -/
variable {E : WX} {N B C : List S → Prop} {R : S → Prop} {X : List S → Addr → List (Str × D) → Prop} {t u : TS} {c : TT} {b : Bool}
theorem sd_next (h : N δ) : SD K E tNext δ N R B C X := fun He Ge H σ Dn ok n r bk ct xx => n δ σ H ok h
theorem sd_break (h : B δ) : SD K E tBreak δ N R B C X := fun He Ge H σ Dn ok n r bk ct xx => bk δ σ H ok h
theorem sd_cont (h : C δ) : SD K E tCont δ N R B C X := fun He Ge H σ Dn ok n r bk ct xx => ct δ σ H ok h
theorem sd_seq (h : SD K E t δ (fun δ' => SD K E u δ' N R B C X) R B C X) : SD K E (tSeq t u) δ N R B C X := fun He Ge H σ Dn ok n r bk ct xx =>
  h He Ge H σ { Dn with nx := u Dn } ok (fun δ' σ' H' ok' k => k He Ge H' σ' Dn ok' n r bk ct xx) r bk ct xx
theorem ev0 {te : TE} (h : EV K te δ s) {He Ge H : Hp} {σ : St} (ok : OK K He Ge H σ δ) {Q : VK} (q : ∀ v H', OK K He Ge H' (some v :: σ) (s :: δ) → Q v H') : te σ H Q := h He Ge H [] [] σ rfl ok Q q
theorem eb0 {c : TT} (h : EB K c δ b) {He Ge H : Hp} {σ : St} (ok : OK K He Ge H σ δ) {Q : Bool → Hp → Prop} (q : ∀ H', OK K He Ge H' σ δ → Q b H') : c σ H Q := h He Ge H [] [] σ rfl ok Q q
theorem sd_set {i : Nat} (h : EV K te δ s) (hi : i < δ.length) (n : N (δ.set i s)) : SD K E (tAsg te (gName i)) δ N R B C X := fun He Ge H σ Dn ok nx r bk ct xx =>
  ev0 h ok fun v H' ⟨G', ok'⟩ => nx _ _ _ ⟨G', ok'.store hi⟩ n
theorem sd_asg {g : TG} {δ' : List S} (h : EV K te δ (.d x)) (hg : ET K g δ x δ') (n : N δ') : SD K E (tAsg te g) δ N R B C X := fun He Ge H σ Dn ok nx r bk ct xx =>
  ev0 h ok fun v H' ⟨G', ok'⟩ => by
    obtain ⟨_, e, rv⟩ := ok'.top
    cases e
    exact hg He Ge H' G' [] [] σ v rfl ok'.pop rv Dn.nx fun σ' ok2 => nx _ _ _ ⟨G', ok2⟩ n
theorem sd_if (h : EB K c δ b) (h1 : b = true → SD K E t δ N R B C X) (h2 : b = false → SD K E u δ N R B C X) : SD K E (tIfS c t u) δ N R B C X := fun He Ge H σ Dn ok nx r bk ct xx =>
  eb0 h ok fun H' ok' => by
    cases b with
    | true => exact iteT (h1 rfl He Ge H' σ Dn ok' nx r bk ct xx)
    | false => exact iteF (h2 rfl He Ge H' σ Dn ok' nx r bk ct xx)
theorem sd_ret (h : EV K te δ s) (r : R s) : SD K E (tRet te) δ N R B C X := fun He Ge H σ Dn ok nx rt bk ct xx => ev0 h ok fun v H' ok' => rt v s σ δ H' ok' r
theorem sd_retN (r : R (.d .non)) : SD K E tRetN δ N R B C X := fun He Ge H σ Dn ⟨G, ok⟩ nx rt bk ct xx => rt .non _ σ δ H ⟨G, ok.pushD .non⟩ r
theorem sd_drop (h : EV K te δ s) (n : N δ) : SD K E (tDrop te) δ N R B C X := fun He Ge H σ Dn ok nx r bk ct xx => ev0 h ok fun v H' ⟨G', ok'⟩ => nx _ _ _ ⟨G', ok'.pop⟩ n
theorem sd_never : SD K E tNever δ N R B C X → SD K E tNever δ N R B C X := id
/-- weaker slots first -/
theorem sd_weak {δ' : List S} (w : weak δ δ') (h : SD K E t δ' N R B C X) : SD K E t δ N R B C X := fun He Ge H σ Dn ⟨G, ok⟩ nx r bk ct xx => h He Ge H σ Dn ⟨G, ok.weak w⟩ nx r bk ct xx
theorem sd_mono {N' B' C' : List S → Prop} {R' : S → Prop} {X' : List S → Addr → List (Str × D) → Prop} (h : SD K E t δ N R B C X) (n : ∀ δ, N δ → N' δ) (r : ∀ s, R s → R' s) (b : ∀ δ, B δ → B' δ) (c : ∀ δ, C δ → C' δ) (x : ∀ δ a fs, X δ a fs → X' δ a fs) : SD K E t δ N' R' B' C' X' := fun He Ge H σ Dn ok nx rt bk ct xx =>
  h He Ge H σ Dn ok (fun δ' σ' H' k p => nx δ' σ' H' k (n _ p)) (fun v s σ' δ' H' k p => rt v s σ' δ' H' k (r _ p)) (fun δ' σ' H' k p => bk δ' σ' H' k (b _ p)) (fun δ' σ' H' k p => ct δ' σ' H' k (c _ p))
    (fun c fs cls d G' σ' δ' H' k k2 p => xx c fs cls d G' σ' δ' H' k k2 (x _ _ _ p))
/-- xs.append(e), xs a list of one's own in slot i -/
theorem sd_append {i : Nat} (hi : δ[i]? = some (.own xs)) (h : EV K te δ (.d x)) (hz : xs.length < sizeLine) (n : N (δ.set i (.own (xs ++ [x])))) : SD K E (tDrop (tBM K "list" rAppend (tVar i) (tCons te tNil))) δ N R B C X := by
  intro He Ge H σ Dn ok nx r bk ct xx
  obtain ⟨G, okk⟩ := id ok
  obtain ⟨o, eo, p, vs, rfl, h1, h2, h3, rv⟩ := okk.sl i _ hi
  refine ⟨_, eo, .inl ⟨rfl, _, SqL.of h3⟩, ?_⟩
  refine ev0 h ok fun v H' ⟨G', ok'⟩ => ?_
  obtain ⟨o2, eo2, p2, vs2, e2, k1, k2, k3, rv2⟩ := ok'.sl (i + 1) (.own xs) (by simpa using hi)
  have e3 : o2 = some (.ref p) := by
    have : σ[i]? = some o2 := by simpa using eo2
    rw [eo] at this
    exact (Option.some.inj this).symm
  subst e3
  cases e2
  obtain ⟨w, e4, rw_⟩ := ok'.top
  cases e4
  refine ⟨p, vs2, v, rfl, rfl, k3, by rw [← rv2.length]; exact hz, ?_⟩
  exact nx _ _ _ ⟨G', OKG.change ok'.pop hi eo k3 (rv2.append (.cons rw_ .nil))⟩ n
theorem sd_for {α : Type} {ys : List α} {h : α → D} {wi : TI} {g : TG} {tb : TS} (hi : EI K wi δ (ys.map h)) (I : Nat → List S) (h0 : weak δ (I 0))
    (k : ∀ i y, ys[i]? = some y → ∃ δ2, ET K g (I i) (h y) δ2 ∧ SD K E tb δ2 (fun δ' => weak δ' (I (i + 1))) R N (fun δ' => weak δ' (I (i + 1))) X) (hd : N (I ys.length)) : SD K E (tFor wi g tb) δ N R B C X := by
  intro He Ge H σ Dn ok nx r bk ct xx
  refine hi He Ge H [] [] σ rfl ok _ fun J H1 G us ok1 r1 jis => ?_
  have lus : us.length = ys.length := by rw [← r1.length, List.length_map]
  refine ⟨fun i m σ2 H2 => i + m = us.length ∧ OK K He G H2 σ2 (I i), ⟨us.length, by omega, G, (OKG.ground ok1).weak h0⟩, fun i m σ2 H2 ⟨em, G2, ok2⟩ => ?_⟩
  obtain ⟨j1, j2, j3⟩ := jis H2 (ok2.ge.trans ok2.gh)
  rcases Nat.lt_or_ge i us.length with hlt | hge
  · have hy : i < ys.length := by omega
    have ey : ys[i]? = some ys[i] := List.getElem?_eq_getElem hy
    have ex : (ys.map h)[i]? = some (h ys[i]) := by rw [List.getElem?_map, ey]; rfl
    obtain ⟨v, ev, rv⟩ := r1.get ex
    refine .inr ⟨j1 i hlt, fun σ3 H3 => OK K He G H3 σ3 (I (i + 1)), fun σ3 H3 k3 => ⟨m - 1, by omega, by omega, k3⟩, fun x H3 hx => ?_⟩
    obtain ⟨e3, e4⟩ := j2 i x H3 hx
    subst e3
    have exv : x = v := Option.some.inj ((e4 hlt).symm.trans ev)
    subst exv
    obtain ⟨δ2, kt, kb⟩ := k i ys[i] ey
    refine kt He G H3 G2 [] [] σ2 x rfl ok2 (rv.mono ok2.ge) _ fun σ3 ok3 => ?_
    refine kb He G H3 σ3 _ ⟨G2, ok3⟩ ?_ ?_ ?_ ?_ ?_
    · exact fun δ' σ' H' ⟨G', k'⟩ w => ⟨G', k'.weak w⟩
    · exact fun v s σ' δ' H' ⟨G', k'⟩ w => r v s σ' δ' H' ⟨G', ok1.unground k'⟩ w
    · exact fun δ' σ' H' ⟨G', k'⟩ w => nx δ' σ' H' ⟨G', ok1.unground k'⟩ w
    · exact fun δ' σ' H' ⟨G', k'⟩ w => ⟨G', k'.weak w⟩
    · exact fun c fs cls d G' σ' δ' H' k' k2 w => xx c fs cls d G' σ' δ' H' (ok1.unground k') k2 w
  · have e : i = ys.length := by omega
    subst e
    exact .inl ⟨j3 _ hge, nx _ _ _ ⟨G2, ok1.unground ok2⟩ hd⟩
theorem sd_while {α : Type} {tb : TS} (I : α → List S) (W : α → Prop) (μ : α → Nat) (a0 : α) (w0 : W a0) (h0 : weak δ (I a0))
    (k : ∀ a, W a → ∃ b, EB K c (I a) b ∧ (b = true → SD K E tb (I a) (fun δ' => ∃ a', W a' ∧ μ a' < μ a ∧ weak δ' (I a')) R N (fun δ' => ∃ a', W a' ∧ μ a' < μ a ∧ weak δ' (I a')) X) ∧ (b = false → N (I a))) : SD K E (tWhile c tb) δ N R B C X := by
  intro He Ge H σ Dn ⟨G, ok⟩ nx r bk ct xx
  refine ⟨fun m σ2 H2 => ∃ a, W a ∧ m = μ a ∧ OK K He Ge H2 σ2 (I a), ⟨μ a0, a0, w0, rfl, G, ok.weak h0⟩, fun m σ2 H2 ⟨a, wa, em, ok2⟩ => ?_⟩
  obtain ⟨b, kb, kt, kf⟩ := k a wa
  refine eb0 kb ok2 fun H3 ok3 => ?_
  cases b with
  | false => exact iteF (nx _ _ _ ok3 (kf rfl))
  | true =>
    refine iteT ⟨fun σ' H' => ∃ a', W a' ∧ μ a' < μ a ∧ OK K He Ge H' σ' (I a'), fun σ' H' ⟨a', w', l, o⟩ => ⟨μ a', by omega, a', w', rfl, o⟩, ?_⟩
    refine kt rfl He Ge H3 σ2 _ ok3 ?_ r nx ?_ xx
    · exact fun δ' σ' H' ⟨G', k'⟩ ⟨a', w', l, w⟩ => ⟨a', w', l, G', k'.weak w⟩
    · exact fun δ' σ' H' ⟨G', k'⟩ ⟨a', w', l, w⟩ => ⟨a', w', l, G', k'.weak w⟩
end
/-! ### a def -/
def Fits (out : Out) (s : S) : Prop := out = .ret s ∨ ∃ xs, s = .own xs ∧ out = .ret (.d (.lst xs))
/-- the whole of a def's body -/
def SDef (K : PySem.W.Frag) (E : WX) (t : TS) (δ : List S) (out : Out) : Prop := SD K E t δ (fun _ => out = .ret (.d .non)) (Fits out) NoS NoS (fun _ c fs => out = .exc c fs)
def slots (n : Nat) (xs : List D) : List S := xs.map .d ++ List.replicate (n - xs.length) .un
theorem ok_start {K : PySem.W.Frag} {G H : Hp} {N : List Str} {xs : List D} {vs : List V} (e : Ex G H) (r : RpL K G xs vs) : OK K H G H (L2.start N vs) (slots N.length xs) := by
  refine ⟨G, .refl G, e, .refl H, fun _ _ z => z, fun i s h => ?_, fun i j s t p hij hi hj o1 => ?_⟩
  · unfold slots at h
    unfold L2.start
    rcases Nat.lt_or_ge i xs.length with q | q
    · rw [List.getElem?_append_left (by simpa using q), List.getElem?_map] at h
      obtain ⟨x, ex, rfl⟩ := Option.map_eq_some_iff.mp h
      obtain ⟨v, ev, rv⟩ := r.get ex
      refine ⟨some v, ?_, v, rfl, rv⟩
      rw [List.getElem?_append_left (by rw [List.length_map, ← r.length]; exact q), List.getElem?_map, ev]; rfl
    · rw [List.getElem?_append_right (by simpa using q)] at h
      have hs : s = .un := List.eq_of_mem_replicate (List.mem_of_getElem? h)
      have hl := (List.getElem?_eq_some_iff.mp h).1
      rw [List.length_replicate, List.length_map] at hl
      subst hs
      refine ⟨none, ?_, trivial⟩
      rw [List.getElem?_append_right (by rw [List.length_map, ← r.length]; exact q), List.getElem?_replicate, if_pos (by rw [List.length_map, ← r.length]; exact hl)]
  · have : ∀ s ∈ slots N.length xs, owned s = false := fun s hs => by
      rcases List.mem_append.mp hs with z | z
      · obtain ⟨x, _, rfl⟩ := List.mem_map.mp z; rfl
      · rw [List.eq_of_mem_replicate z]; rfl
    rw [this s (List.mem_of_getElem? hi)] at o1; cases o1
theorem body_run {K : PySem.W.Frag} {R : List D → Out → Prop} {N : List Str} {vs : List V} {H : Hp} {Q : VK} {E : XK} {t : TS} (h : spD K R vs H Q E) (k : ∀ xs out, R xs out → SDef K (fun cls d _ H => E cls d H) t (slots N.length xs) out) : t { nx := fun _ H' => Q .non H', rt := Q } (L2.start N vs) H := by
  obtain ⟨G, xs, out, e, r, hr, q1, q2⟩ := h
  refine k xs out hr H G H _ _ (ok_start e r) (fun δ' σ' H' ⟨G', ok⟩ z => ?_) (fun v s σ' δ' H' ⟨G', ok⟩ z => ?_) (fun _ _ _ _ z => z.elim) (fun _ _ _ _ z => z.elim) fun c fs cls d G' σ' δ' H' ok x z => q2 c fs cls d G' H' z ok.ge ok.gh ok.he ok.nc x
  · exact q1 .non _ G' H' z ok.ge ok.gh ok.he ok.nc ⟨.non, rfl, .non⟩
  · rcases z with z | ⟨ys, rfl, z⟩
    · exact q1 v s G' H' z ok.ge ok.gh ok.he ok.nc ok.top
    · obtain ⟨G2, ok2⟩ := ok.freeze
      exact q1 v _ G2 H' z ok2.ge ok2.gh ok2.he ok2.nc ok2.top
section
open PySem.Spec PyProof.Rows
variable {P : Program} {w : World} {K : PySem.W.Frag} {mg : Str → Option Value} {base : Heap}
theorem spD_len {R : List D → Out → Prop} {n : Nat} (h : ∀ xs out, R xs out → xs.length = n) : ∀ vs H Q E, spD K R vs H Q E → vs.length = n := fun vs H Q E ⟨G, xs, out, e, r, hr, _⟩ => by rw [← r.length]; exact h xs out hr
theorem ok_def {x qual : Str} {st : Stmt} {f : Addr} {fd : FuncData} {N ps : List Str} {k : Nat} {R : List D → Out → Prop} {t : TS} (F : Fun K x qual st f fd) (S : FnScope N ps (defScope st)) (hl : ∀ xs out, R xs out → xs.length = ps.length)
    (hd : ∀ (cdv : Value) (A : Around) (outer : List Env) (s : Shared) (H : Hp) (E : XK), Room k (A.deeper (envOfC qual (defScope st) s.heap.objs.size f cdv)) → PSs (cxOf CX0 P w K mg base N qual (defScope st) f cdv A outer s H E).nox (defBody st) t)
    (hs : ∀ (E : WX) xs out, R xs out → SDef K E t (slots N.length xs) out) : FnOk P w K mg base CX0 (k + 1) f fd ps (spD K R) :=
  F.ok S (spD_len hl) fun cdv A outer s H vs Q E hr h => ⟨t, hd cdv A outer s H E hr, body_run h (hs _)⟩
end
end Far
/-! Operators told over data. -/
namespace Far
open PySem L2
section
variable {K : PySem.W.Frag}
/-! ### scalars out -/
theorem done {He Ge H G : Hp} {σ : St} {δ : List S} {x : D} {v : V} (ok : OKG K He Ge H G σ δ) (r : Rp K G x v) : OK K He Ge H (some v :: σ) (.d x :: δ) := ⟨G, ok.pushD r⟩
theorem doneT {He Ge H G : Hp} {σ : St} {δ : List S} {xs : List D} {vs : List V} {p : Addr} (ok : OKG K He Ge H G σ δ) (hp : H p = none) (r : RpL K G xs vs) : OK K He Ge (upd H p (.tup vs)) (some (.ref p) :: σ) (.d (.tup xs) :: δ) :=
  ⟨_, (ok.newG hp).pushD (.tup (SqT.of upd_same) (r.mono (.new (ok.gh.none hp))))⟩
theorem doneL {He Ge H G : Hp} {σ : St} {δ : List S} {xs : List D} {vs : List V} {p : Addr} (ok : OKG K He Ge H G σ δ) (hp : H p = none) (r : RpL K G xs vs) : OK K He Ge (upd H p (.lst vs)) (some (.ref p) :: σ) (.own xs :: δ) :=
  ⟨G, ok.newOwn hp r⟩
theorem rv_I0 {g : Int → Int → Int} {i j : Int} : RV2 K (rI0 fun i j => .int (g i j)) (.int i) (.int j) (.d (.int (g i j))) := by
  intro He Ge H G σ δ v u ok rv ru Q q
  cases rv; cases ru
  exact ⟨i, j, rfl, rfl, q _ _ (done ok .int)⟩
theorem rv_B0 {g : Int → Int → Bool} {i j : Int} : RV2 K (rI0 fun i j => .bl (g i j)) (.int i) (.int j) (.d (.bl (g i j))) := by
  intro He Ge H G σ δ v u ok rv ru Q q
  cases rv; cases ru
  exact ⟨i, j, rfl, rfl, q _ _ (done ok .bl)⟩
theorem rv_I {C : Int → Int → Prop} {g : Int → Int → Int} {i j : Int} (h : C i j) : RV2 K (rI C fun i j => .int (g i j)) (.int i) (.int j) (.d (.int (g i j))) := by
  intro He Ge H G σ δ v u ok rv ru Q q
  cases rv; cases ru
  exact ⟨i, j, rfl, rfl, h, q _ _ (done ok .int)⟩
theorem rv1_U {g : Int → Int} {i : Int} : RV1 K (rU fun i => .int (g i)) (.int i) (.d (.int (g i))) := by
  intro He Ge H G σ δ v ok rv Q q
  cases rv
  exact ⟨i, rfl, q _ _ (done ok .int)⟩
theorem RV2.inl {r r' : R2} {x y : D} {s : S} (h : RV2 K r x y s) : RV2 K (fun a b H Q => r a b H Q ∨ r' a b H Q) x y s := fun He Ge H G σ δ v u ok rv ru Q q => .inl (h He Ge H G σ δ v u ok rv ru Q q)
theorem RV2.inr {r r' : R2} {x y : D} {s : S} (h : RV2 K r' x y s) : RV2 K (fun a b H Q => r a b H Q ∨ r' a b H Q) x y s := fun He Ge H G σ δ v u ok rv ru Q q => .inr (h He Ge H G σ δ v u ok rv ru Q q)
theorem RVN.inl {r r' : List V → Hp → VK → Prop} {xs : List D} {s : S} (h : RVN K r xs s) : RVN K (fun a H Q => r a H Q ∨ r' a H Q) xs s := fun He Ge H G σ δ v ok rv Q q => .inl (h He Ge H G σ δ v ok rv Q q)
theorem RVN.inr {r r' : List V → Hp → VK → Prop} {xs : List D} {s : S} (h : RVN K r' xs s) : RVN K (fun a H Q => r a H Q ∨ r' a H Q) xs s := fun He Ge H G σ δ v ok rv Q q => .inr (h He Ge H G σ δ v ok rv Q q)
/-! ### + -/
def rAddI : R2 := rI0 fun i j => .int (i + j)
def rAddT : R2 := fun x y H Q => ∃ i j, x = .str i ∧ y = .str j ∧ i.length + j.length ≤ sizeLine ∧ Q (.str (i ++ j)) H
def rAddU (K : PySem.W.Frag) : R2 := fun x y H Q => (rAddI x y H Q ∨ rAddT x y H Q) ∨ (rCat x y H Q ∨ rCatA K x y H Q)
theorem op_addU {X : Cx} : OpR X (binaryOp .Add) (rAddU X.K) := OpR.or (OpR.or op_add op_add_str) (OpR.or op_cat op_catA)
theorem add_int {i j : Int} : RV2 K (rAddU K) (.int i) (.int j) (.d (.int (i + j))) := .inl (.inl rv_I0)
theorem add_str {i j : Str} (h : i.length + j.length ≤ sizeLine) : RV2 K (rAddU K) (.str i) (.str j) (.d (.str (i ++ j))) := .inl (.inr (by
  intro He Ge H G σ δ v u ok rv ru Q q
  cases rv; cases ru
  exact ⟨i, j, rfl, rfl, h, q _ _ (done ok .str)⟩))
theorem add_lst {xs ys : List D} (h : xs.length + ys.length ≤ sizeLine) : RV2 K (rAddU K) (.lst xs) (.lst ys) (.own (xs ++ ys)) := .inr (.inl (by
  intro He Ge H G σ δ v u ok rv ru Q q
  cases rv with
  | lst h1 r1 =>
    cases ru with
    | lst h2 r2 => exact ⟨_, _, _, _, rfl, rfl, ok.gh _ _ h1, ok.gh _ _ h2, by rw [← r1.length, ← r2.length]; exact h, fun p hp => q _ _ (doneL ok hp (r1.append r2))⟩))
theorem add_tup {xs ys : List D} (h : xs.length + ys.length ≤ sizeLine) : RV2 K (rAddU K) (.tup xs) (.tup ys) (.d (.tup (xs ++ ys))) := .inr (.inr (by
  intro He Ge H G σ δ v u ok rv ru Q q
  cases rv with
  | tup h1 r1 =>
    cases ru with
    | tup h2 r2 =>
      refine ⟨_, _, _, _, rfl, rfl, ok.gh.t h1, ok.gh.t h2, by rw [← r1.length, ← r2.length]; exact h, fun e => ?_, fun e1 e2 => ?_, fun e1 e2 p hp => q _ _ (doneT ok hp (r1.append r2))⟩
      · subst e; cases r1; exact q _ _ (done ok (.tup h2 r2))
      · subst e2; cases r2; rw [List.append_nil] at q; exact q _ _ (done ok (.tup h1 r1))))
/-! ### -, *, //, %, ** -/
theorem sub_int {i j : Int} : RV2 K (rI0 fun i j => .int (i - j)) (.int i) (.int j) (.d (.int (i - j))) := rv_I0
section
open PySem.Spec PyProof.Rows
/-! ### tuples repeated, wider -/
def rRepW (K : PySem.W.Frag) : R2 := fun x y H Q => ∃ l k xs, x = .ref l ∧ y = .int k ∧ SqT K H l xs ∧ xs ≠ [] ∧ 2 ≤ k ∧ xs.length * k.toNat ≤ 1000000 ∧ k ≤ 1000000 ∧ ∀ p, H p = none → Q (.ref p) (upd H p (.tup (List.replicate k.toNat xs).flatten))
theorem op_repW {X : Cx} : OpR X (binaryOp .Mult) (rRepW X.K) := by
  intro pins s σ H x y v u Q I rx ry h
  obtain ⟨l, k, xs, rfl, rfl, hT, hne, h1, hz, h2, q⟩ := h
  cases rx
  obtain ⟨t, rfl⟩ := ry
  obtain ⟨its, r, ⟨⟨cls, dd, data, sl⟩, ho, hc, n, hd⟩, hs⟩ := I.tuple hT
  simp only at hc hd
  subst hc hd
  have hle : its.length = xs.length := r.length.symm
  have hn : its ≠ [] := fun e => hne (by
    rw [e] at hle
    exact List.eq_nil_of_length_eq_zero hle.symm)
  have hi : its.toArray.isEmpty = false := by
    cases its with
    | nil => exact absurd rfl hn
    | cons a b => rfl
  have hsz0 : its.toArray.size = xs.length := by rw [List.size_toArray, hle]
  have hm : ((its.toArray.size : Nat) : Int) * k ≤ 1000000 := by
    rw [hsz0]
    have e : ((xs.length : Nat) : Int) * k = ((xs.length * k.toNat : Nat) : Int) := by push_cast; rw [Int.toNat_of_nonneg (by omega)]
    rw [e]; omega
  have flen : (List.replicate k.toNat its).flatten.length ≤ sizeLine := by
    rw [PyProof.Rows.lm_len_rep_flat, hle, sizeLine_eq, Nat.mul_comm]
    omega
  have c0 : (decide (k < -(2 ^ 63)) || decide (k ≥ 2 ^ 63)) = false := by
    rw [decide_eq_false (by omega), decide_eq_false (by omega)] <;> rfl
  have c1 : (its.toArray.isEmpty || k == 1) = false := by
    rw [hi, Bool.false_or]
    exact beq_eq_false_iff_ne.mpr (by omega)
  have c2 : (decide (k ≤ 0) || its.toArray.isEmpty) = false := by
    rw [hi, Bool.or_false]
    exact decide_eq_false (by omega)
  have c4 : Builtin.Tuple.tupleTooMany (((its.toArray.size : Nat) : Int) * k) = false := by
    unfold Builtin.Tuple.tupleTooMany
    rw [sizeLine_eq]
    exact decide_eq_false (by omega)
  refine wpAny_binaryOp_repeat_ref (T := "tuple") (U := "int") (by decide) ⟨_, ho, rfl⟩ (fun s' => typeIs_int s' k t) noFill_tuple_mul F.fills_int_mul F.slot_int_rmul repeat_tuple F.slot_int_index.lookup
    (call_meets F.slot_int_rmul (typeIs_int s k t) F.entry_int_rmul (F.args_int_rmul_2 _ _) (int_rmul_tuple k t l its.toArray n dd sl)
      ⟨ho, rfl, ⟨_, ho, rfl⟩, call_meets F.slot_tuple_mul ⟨_, ho, rfl⟩ F.entry_tuple_mul (F.args_tuple_mul_2 _ _) (tuple_mulW l its.toArray n dd sl k t c0 c1 c2 (by omega) c4 (by rw [size_rep, List.size_toArray]; exact flen)) ⟨ho, ?_⟩⟩)
  rw [size_rep]
  refine ⟨.ref s.heap.objs.size, _, I.laid (t' := s.toks) (o := .tup (List.replicate k.toNat xs).flatten) (fun b ob q => Heap.get?_push_of_some _ q) (Nat.le_refl _) ?_, rfl, q _ (I.hok.fresh (Nat.le_refl _))⟩
  exact ⟨by rw [PyProof.Rows.lm_len_rep_flat, sizeLine_eq, Nat.mul_comm]; omega, _, r.rep k.toNat, IsTup.new _ _⟩
open AutoSeq1 in
theorem tuple_mul1 (l : Addr) (items : Array Value) (n : Nat) (dd : Option Addr) (sl : Array (Option Value)) (u : Tok) :
    Meets (Builtin.«tuple.__mul__» ⟨[.ref l, .int 1 u], []⟩) (fun _ R s => s.heap.get? l = some { cls := .type "tuple", dict := dd, data := .seq items n, slots := sl } ∧ R (.ok (.ret (Value.ref l))) s) :=
  .of_wp fun prog w A R s h => by
    obtain ⟨hp, g, d, tk, os⟩ := s
    obtain ⟨hl, h⟩ := h
    have f1 := AutoSeq1.idx_int
    have c1 : (items.isEmpty || ((1 : Int) == 1)) = true := by simp
    wp_walk using wpAny_loadPart' hl
    exact ⟨_, rfl, h⟩
def rRep1 (K : PySem.W.Frag) : R2 := fun x y H Q => ∃ l xs, x = .ref l ∧ y = .int 1 ∧ SqT K H l xs ∧ Q x H
theorem op_rep1 {X : Cx} : OpR X (binaryOp .Mult) (rRep1 X.K) := by
  intro pins s σ H x y v u Q I rx ry h
  obtain ⟨l, xs, rfl, rfl, hT, q⟩ := h
  cases rx
  obtain ⟨t, rfl⟩ := ry
  obtain ⟨its, r, ⟨⟨cls, dd, data, sl⟩, ho, hc, n, hd⟩, hs⟩ := I.tuple hT
  simp only at hc hd
  subst hc hd
  refine wpAny_binaryOp_repeat_ref (T := "tuple") (U := "int") (by decide) ⟨_, ho, rfl⟩ (fun s' => typeIs_int s' 1 t) noFill_tuple_mul F.fills_int_mul F.slot_int_rmul repeat_tuple F.slot_int_index.lookup
    (call_meets F.slot_int_rmul (typeIs_int s 1 t) F.entry_int_rmul (F.args_int_rmul_2 _ _) (int_rmul_tuple 1 t l its.toArray n dd sl)
      ⟨ho, rfl, ⟨_, ho, rfl⟩, call_meets F.slot_tuple_mul ⟨_, ho, rfl⟩ F.entry_tuple_mul (F.args_tuple_mul_2 _ _) (tuple_mul1 l its.toArray n dd sl t) ⟨ho, ?_⟩⟩)
  exact ⟨.ref l, H, I.tok _, rfl, q⟩
end
def rMulU (K : PySem.W.Frag) : R2 := fun x y H Q => (rI CMul (fun i j => .int (i * j)) x y H Q ∨ rI CMulW (fun i j => .int (i * j)) x y H Q) ∨ (rRep x y H Q ∨ (rRepW K x y H Q ∨ rRep1 K x y H Q))
theorem op_mulU {X : Cx} : OpR X (binaryOp .Mult) (rMulU X.K) := OpR.or (OpR.or op_mul op_mulW) (OpR.or op_rep (OpR.or op_repW op_rep1))
theorem mul_int {i j : Int} (h : CMul i j) : RV2 K (rMulU K) (.int i) (.int j) (.d (.int (i * j))) := .inl (.inl (rv_I h))
theorem mul_wide {i j : Int} (h : CMulW i j) : RV2 K (rMulU K) (.int i) (.int j) (.d (.int (i * j))) := .inl (.inr (rv_I h))
theorem RpL.rep {H : Hp} {xs : List D} {vs : List V} (r : RpL K H xs vs) : ∀ k : Nat, RpL K H (List.replicate k xs).flatten (List.replicate k vs).flatten
  | 0 => .nil
  | k + 1 => by rw [List.replicate_succ, List.replicate_succ, List.flatten_cons, List.flatten_cons]; exact r.append (r.rep k)
theorem mul_lst {xs : List D} {k : Int} (h1 : -(2 ^ 63) ≤ k) (h2 : k < 2 ^ 63) (h3 : xs.length * k.toNat ≤ sizeLine) : RV2 K (rMulU K) (.lst xs) (.int k) (.own (List.replicate k.toNat xs).flatten) := .inr (.inl (by
  intro He Ge H G σ δ v u ok rv ru Q q
  cases ru
  cases rv with
  | lst hl r => exact ⟨_, k, _, rfl, rfl, ok.gh _ _ hl, h1, h2, by rw [← r.length]; exact h3, fun p hp => q _ _ (doneL ok hp (r.rep _))⟩))
theorem mul_tup {xs : List D} {k : Int} (h : xs ≠ []) (h1 : 2 ≤ k) (h2 : xs.length * k.toNat ≤ 1000000) (h3 : k ≤ 1000000) : RV2 K (rMulU K) (.tup xs) (.int k) (.d (.tup (List.replicate k.toNat xs).flatten)) := .inr (.inr (.inl (by
  intro He Ge H G σ δ v u ok rv ru Q q
  cases ru
  cases rv with
  | tup hl r => exact ⟨_, k, _, rfl, rfl, ok.gh.t hl, (fun e => h (by rw [e] at r; cases r; rfl)), h1, by rw [← r.length]; exact h2, h3, fun p hp => q _ _ (doneT ok hp (r.rep _))⟩)))
theorem mul_tup1 {xs : List D} : RV2 K (rMulU K) (.tup xs) (.int 1) (.d (.tup xs)) := .inr (.inr (.inr (by
  intro He Ge H G σ δ v u ok rv ru Q q
  cases ru
  cases rv with
  | tup hl r => exact ⟨_, _, rfl, rfl, ok.gh.t hl, q _ _ (done ok (.tup hl r))⟩)))
theorem fdiv_int {i j : Int} (h : CDivW i j) : RV2 K (rI CDivW fun i j => .int (i / j)) (.int i) (.int j) (.d (.int (i / j))) := rv_I h
theorem mod_int {i j : Int} (h : 0 < j) : RV2 K (rI (fun _ j => 0 < j) fun i j => .int (i % j)) (.int i) (.int j) (.d (.int (i % j))) := rv_I h
theorem pow_int {i j : Int} (h : CPow i j) : RV2 K (rI CPow fun i j => .int (i ^ j.toNat)) (.int i) (.int j) (.d (.int (i ^ j.toNat))) := rv_I h
theorem neg_int {i : Int} : RV1 K (rU fun i => .int (-i)) (.int i) (.d (.int (-i))) := rv1_U
/-! ### comparisons -/
theorem lt_int {i j : Int} : RV2 K (rI0 fun i j => .bl (decide (i < j))) (.int i) (.int j) (.d (.bl (decide (i < j)))) := rv_B0
theorem le_int {i j : Int} : RV2 K (rI0 fun i j => .bl (decide (i ≤ j))) (.int i) (.int j) (.d (.bl (decide (i ≤ j)))) := rv_B0
theorem gt_int {i j : Int} : RV2 K (rI0 fun i j => .bl (decide (j < i))) (.int i) (.int j) (.d (.bl (decide (j < i)))) := rv_B0
theorem ge_int {i j : Int} : RV2 K (rI0 fun i j => .bl (decide (j ≤ i))) (.int i) (.int j) (.d (.bl (decide (j ≤ i)))) := rv_B0
mutual
def pd : D → PyData
  | .non => .none
  | .bl b => .bool b
  | .int i => .int i
  | .str x => .str x
  | .tup xs => .tuple (pdL xs)
  | .lst xs => .list (pdL xs)
  | .scr xs => .list (pdL xs)
  | _ => .none
def pdL : List D → List PyData
  | [] => []
  | x :: xs => pd x :: pdL xs
end
mutual
def pur : D → Bool
  | .non => true
  | .bl _ => true
  | .int _ => true
  | .str x => PyData.strOk x
  | .tup xs => purL xs
  | .lst xs => purL xs
  | .scr xs => purL xs
  | _ => false
def purL : List D → Bool
  | [] => true
  | x :: xs => pur x && purL xs
end
mutual
theorem Rp.dp {G : Hp} : ∀ {d : D} {v : V}, Rp K G d v → pur d = true → Dp K G v (pd d)
  | _, _, .non, _ => by unfold pd; exact .non
  | _, _, .bl, _ => by unfold pd; exact .bl _
  | _, _, .int, _ => by unfold pd; exact .int _
  | _, _, .str, _ => by unfold pd; exact .str _
  | _, _, .ty, h => by simp [pur] at h
  | _, _, .cls, h => by simp [pur] at h
  | _, _, .tup h r, p => by unfold pd; exact .tup h (RpL.dp r (by simpa [pur] using p))
  | _, _, .lst h r, p => by unfold pd; exact .lst (SqL.of h) (RpL.dp r (by simpa [pur] using p))
  | _, _, .scr h r, p => by unfold pd; exact .lst h (RpL.dp r (by simpa [pur] using p))
  | _, _, .ins _ _, h => by simp [pur] at h
  | _, _, .dK _ _, h => by simp [pur] at h
theorem RpL.dp {G : Hp} : ∀ {ds : List D} {vs : List V}, RpL K G ds vs → purL ds = true → DpAll K G vs (pdL ds)
  | _, _, .nil, _ => by unfold pdL; exact .nil
  | _, _, .cons h r, p => by
    unfold purL at p
    rw [Bool.and_eq_true] at p
    unfold pdL
    exact .cons (Rp.dp h p.1) (RpL.dp r p.2)
end
def rEqU (K : PySem.W.Frag) : R2 := fun x y H Q => rEq x y H Q ∨ rEqD K x y H Q
def rNeU (K : PySem.W.Frag) : R2 := fun x y H Q => rNe x y H Q ∨ rNeD K x y H Q
theorem op_eqU {X : Cx} (hu : X.A.units + 64 < cLine) : OpR X (compareOp .Eq) (rEqU X.K) := OpR.or op_eq (op_eqD hu)
theorem op_neU {X : Cx} (hu : X.A.units + 64 < cLine) : OpR X (compareOp .NotEq) (rNeU X.K) := OpR.or op_ne (op_neD hu)
theorem eq_scal {x y : D} {v u : V} {b : Bool} (h1 : ∀ G w, Rp K G x w → w = v) (h2 : ∀ G w, Rp K G y w → w = u) (hs : scal v u = true) (hb : decide (v = u) = b) : RV2 K (rEqU K) x y (.d (.bl b)) := .inl (by
  intro He Ge H G σ δ v' u' ok rv ru Q q
  have e1 := h1 _ _ rv
  have e2 := h2 _ _ ru
  subst e1; subst e2
  exact ⟨hs, by rw [hb]; exact q _ _ (done ok .bl)⟩)
theorem ne_scal {x y : D} {v u : V} {b : Bool} (h1 : ∀ G w, Rp K G x w → w = v) (h2 : ∀ G w, Rp K G y w → w = u) (hs : scal v u = true) (hb : (!decide (v = u)) = b) : RV2 K (rNeU K) x y (.d (.bl b)) := .inl (by
  intro He Ge H G σ δ v' u' ok rv ru Q q
  have e1 := h1 _ _ rv
  have e2 := h2 _ _ ru
  subst e1; subst e2
  exact ⟨hs, by rw [hb]; exact q _ _ (done ok .bl)⟩)
theorem rp_int_eq {i : Int} : ∀ G w, Rp K G (.int i) w → w = .int i := fun _ _ h => by cases h; rfl
theorem rp_str_eq {i : Str} : ∀ G w, Rp K G (.str i) w → w = .str i := fun _ _ h => by cases h; rfl
theorem rp_bl_eq {i : Bool} : ∀ G w, Rp K G (.bl i) w → w = .bl i := fun _ _ h => by cases h; rfl
theorem rp_non_eq : ∀ G w, Rp K G .non w → w = .non := fun _ _ h => by cases h; rfl
theorem dec_i {i j : Int} : decide (V.int i = V.int j) = decide (i = j) := by simp
theorem dec_s {i j : Str} : decide (V.str i = V.str j) = decide (i = j) := by simp
theorem dec_b {i j : Bool} : decide (V.bl i = V.bl j) = decide (i = j) := by simp
theorem eq_int {i j : Int} : RV2 K (rEqU K) (.int i) (.int j) (.d (.bl (decide (i = j)))) := eq_scal rp_int_eq rp_int_eq rfl dec_i
theorem eq_str {i j : Str} : RV2 K (rEqU K) (.str i) (.str j) (.d (.bl (decide (i = j)))) := eq_scal rp_str_eq rp_str_eq rfl dec_s
theorem eq_bl {i j : Bool} : RV2 K (rEqU K) (.bl i) (.bl j) (.d (.bl (decide (i = j)))) := eq_scal rp_bl_eq rp_bl_eq rfl dec_b
theorem eq_int_non {i : Int} : RV2 K (rEqU K) (.int i) .non (.d (.bl false)) := eq_scal rp_int_eq rp_non_eq rfl (by simp)
theorem eq_non_int {i : Int} : RV2 K (rEqU K) .non (.int i) (.d (.bl false)) := eq_scal rp_non_eq rp_int_eq rfl (by simp)
theorem eq_non : RV2 K (rEqU K) .non .non (.d (.bl true)) := by
  refine .inr ?_
  intro He Ge H G σ δ v u ok rv ru Q q
  cases rv; cases ru
  exact ⟨.none, .none, .non, .non, rfl, rfl, q _ _ (done ok .bl)⟩
theorem ne_int {i j : Int} : RV2 K (rNeU K) (.int i) (.int j) (.d (.bl (!decide (i = j)))) := ne_scal rp_int_eq rp_int_eq rfl (by rw [dec_i])
theorem ne_str {i j : Str} : RV2 K (rNeU K) (.str i) (.str j) (.d (.bl (!decide (i = j)))) := ne_scal rp_str_eq rp_str_eq rfl (by rw [dec_s])
theorem ne_bl {i j : Bool} : RV2 K (rNeU K) (.bl i) (.bl j) (.d (.bl (!decide (i = j)))) := ne_scal rp_bl_eq rp_bl_eq rfl (by rw [dec_b])
theorem ne_int_non {i : Int} : RV2 K (rNeU K) (.int i) .non (.d (.bl true)) := ne_scal rp_int_eq rp_non_eq rfl (by simp)
theorem ne_non_int {i : Int} : RV2 K (rNeU K) .non (.int i) (.d (.bl true)) := ne_scal rp_non_eq rp_int_eq rfl (by simp)
theorem ne_non : RV2 K (rNeU K) .non .non (.d (.bl false)) := by
  refine .inr ?_
  intro He Ge H G σ δ v u ok rv ru Q q
  cases rv; cases ru
  exact ⟨.none, .none, .non, .non, rfl, rfl, q _ _ (done ok .bl)⟩
theorem eq_dat {x y : D} (p1 : pur x = true) (p2 : pur y = true) (h1 : SeqAt.shaped (pd x) = true) (h2 : SeqAt.shaped (pd y) = true) : RV2 K (rEqU K) x y (.d (.bl (PyData.eqv (pd x) (pd y)))) := .inr (by
  intro He Ge H G σ δ v u ok rv ru Q q
  exact ⟨_, _, (rv.mono ok.gh).dp p1, (ru.mono ok.gh).dp p2, h1, h2, q _ _ (done ok .bl)⟩)
theorem ne_dat {x y : D} (p1 : pur x = true) (p2 : pur y = true) (h1 : SeqAt.shaped (pd x) = true) (h2 : SeqAt.shaped (pd y) = true) : RV2 K (rNeU K) x y (.d (.bl (!PyData.eqv (pd x) (pd y)))) := .inr (by
  intro He Ge H G σ δ v u ok rv ru Q q
  exact ⟨_, _, (rv.mono ok.gh).dp p1, (ru.mono ok.gh).dp p2, h1, h2, q _ _ (done ok .bl)⟩)
def rIsN : R2 := fun x y H Q => y = .non ∧ Q (.bl (decide (x = .non))) H
def rNotN : R2 := fun x y H Q => y = .non ∧ Q (.bl (!decide (x = .non))) H
theorem op_isN1 {X : Cx} : OpR X (compareOp .Is) rIsN := op_isN
theorem op_notN1 {X : Cx} : OpR X (compareOp .IsNot) rNotN := op_notN
def isNon : D → Bool
  | .non => true | _ => false
theorem Rp.non_iff {G : Hp} {x : D} {v : V} (h : Rp K G x v) : decide (v = .non) = isNon x := by cases h <;> simp [isNon]
theorem is_non {x : D} : RV2 K rIsN x .non (.d (.bl (isNon x))) := by
  intro He Ge H G σ δ v u ok rv ru Q q
  cases ru
  exact ⟨rfl, by rw [rv.non_iff]; exact q _ _ (done ok .bl)⟩
theorem not_non {x : D} : RV2 K rNotN x .non (.d (.bl (!isNon x))) := by
  intro He Ge H G σ δ v u ok rv ru Q q
  cases ru
  exact ⟨rfl, by rw [rv.non_iff]; exact q _ _ (done ok .bl)⟩
def rIsB : R2 := fun x y H Q => ∃ a b, x = .bl a ∧ y = .bl b ∧ Q (.bl (decide (a = b))) H
def rNotB : R2 := fun x y H Q => ∃ a b, x = .bl a ∧ y = .bl b ∧ Q (.bl (!decide (a = b))) H
/-! ### truth -/
def tTru (K : PySem.W.Frag) (ta : TE) : TT := fun σ H Q => ta σ H fun x H' => ∃ k, TruV K x H' k ∧ Q k H'
variable {δ : List S} {te ta tb : TE} {x y : D} {s : S}
/-- a value's truth -/
inductive TrD : D → Bool → Prop
  | non : TrD .non false
  | bl (b : Bool) : TrD (.bl b) b
  | int (i : Int) : TrD (.int i) (i != 0)
  | str (x : Str) (h : x.length ≤ sizeLine) : TrD (.str x) ((x.length : Int) != 0)
  | lst (xs : List D) : TrD (.lst xs) (!xs.isEmpty)
  | tup (xs : List D) : TrD (.tup xs) (!xs.isEmpty)
theorem RpL.isEmpty {G : Hp} {xs : List D} {vs : List V} (r : RpL K G xs vs) : vs.isEmpty = xs.isEmpty := by cases r <;> rfl
theorem TrD.to {b : Bool} (h : TrD x b) {G H : Hp} {v : V} (e : Ex G H) (r : Rp K G x v) : TruV K v H b := by
  cases h with
  | non => cases r; rfl
  | bl => cases r; rfl
  | int => cases r; rfl
  | str _ h => cases r; exact ⟨h, rfl⟩
  | lst xs => cases r with | lst h r => exact .inl ⟨_, SqL.of (e _ _ h), by rw [r.isEmpty]⟩
  | tup xs => cases r with | tup h r => exact .inr (.inl ⟨_, e.t h, by rw [r.isEmpty]⟩)
theorem eb_tru {b : Bool} (h : EV K te δ (.d x)) (t : TrD x b) : EB K (tTru K te) δ b := by
  intro He Ge H τo τs σ hl ok Q q
  refine h He Ge H τo τs σ hl ok _ fun v H1 ⟨G, ok1⟩ => ?_
  obtain ⟨_, e1, r1⟩ := ok1.top
  cases e1
  exact ⟨b, t.to ok1.gh r1, q H1 ⟨G, ok1.pop⟩⟩
theorem ev_orT {b : Bool} {s2 : S} (h : EV K ta δ (.d x)) (t : TrD x b) (h2 : b = false → EV K tb δ s2) : EV K (tOrT K ta tb) δ (if b = true then .d x else s2) := by
  intro He Ge H τo τs σ hl ok Q q
  refine h He Ge H τo τs σ hl ok _ fun v H1 ⟨G, ok1⟩ => ?_
  obtain ⟨_, e1, r1⟩ := ok1.top
  cases e1
  refine ⟨b, t.to ok1.gh r1, ?_⟩
  cases b with
  | true => exact iteT (q v H1 ⟨G, ok1⟩)
  | false => exact iteF (h2 rfl He Ge H1 τo τs σ hl ⟨G, ok1.pop⟩ Q q)
theorem ev_andT {b : Bool} {s2 : S} (h : EV K ta δ (.d x)) (t : TrD x b) (h2 : b = true → EV K tb δ s2) : EV K (tAndT K ta tb) δ (if b = true then s2 else .d x) := by
  intro He Ge H τo τs σ hl ok Q q
  refine h He Ge H τo τs σ hl ok _ fun v H1 ⟨G, ok1⟩ => ?_
  obtain ⟨_, e1, r1⟩ := ok1.top
  cases e1
  refine ⟨b, t.to ok1.gh r1, ?_⟩
  cases b with
  | true => exact iteT (h2 rfl He Ge H1 τo τs σ hl ⟨G, ok1.pop⟩ Q q)
  | false => exact iteF (q v H1 ⟨G, ok1⟩)
theorem ev_orB {a b : Bool} (h : EV K ta δ (.d (.bl a))) (h2 : a = false → EV K tb δ (.d (.bl b))) : EV K (tOrT K ta tb) δ (.d (.bl (a || b))) :=
  ev_is (ev_orT (s2 := .d (.bl b)) h (.bl a) h2) (by cases a <;> rfl)
theorem ev_andB {a b : Bool} (h : EV K ta δ (.d (.bl a))) (h2 : a = true → EV K tb δ (.d (.bl b))) : EV K (tAndT K ta tb) δ (.d (.bl (a && b))) :=
  ev_is (ev_andT (s2 := .d (.bl b)) h (.bl a) h2) (by cases a <;> rfl)
theorem ev_notT {b : Bool} (h : EV K ta δ (.d x)) (t : TrD x b) : EV K (tNotT K ta) δ (.d (.bl (!b))) := by
  intro He Ge H τo τs σ hl ok Q q
  refine h He Ge H τo τs σ hl ok _ fun v H1 ⟨G, ok1⟩ => ?_
  obtain ⟨_, e1, r1⟩ := ok1.top
  cases e1
  exact ⟨b, t.to ok1.gh r1, q _ H1 ⟨G, ok1.pop.pushD .bl⟩⟩
/-! ### items, slices -/
theorem atI_len {α β : Type} {xs : List α} {vs : List β} {i : Int} {v : α} (hl : xs.length = vs.length) (h : atI xs i = some v) : ∃ j : Nat, ixN vs.length i = some j ∧ xs[j]? = some v := by
  unfold atI at h
  rw [hl] at h
  cases e : ixN vs.length i with
  | none => rw [e] at h; cases h
  | some j => rw [e] at h; exact ⟨j, rfl, h⟩
theorem RpL.atI {G : Hp} {xs : List D} {vs : List V} {i : Int} {x : D} (r : RpL K G xs vs) (h : L2.atI xs i = some x) : ∃ v, L2.atI vs i = some v ∧ Rp K G x v := by
  obtain ⟨j, e1, e2⟩ := atI_len r.length h
  obtain ⟨v, e3, rv⟩ := r.get e2
  exact ⟨v, by unfold L2.atI; rw [e1]; exact e3, rv⟩
theorem ix_lst {xs : List D} {i : Int} (h : L2.atI xs i = some x) : RV2 K (rIx K) (.lst xs) (.int i) (.d x) := by
  intro He Ge H G σ δ v u ok rv ru Q q
  cases ru
  cases rv with
  | lst hl r =>
    obtain ⟨w, e, rw_⟩ := r.atI h
    exact .inl ⟨_, _, i, w, rfl, rfl, SqL.of (ok.gh _ _ hl), e, q _ _ (done ok rw_)⟩
theorem ix_scr {xs : List D} {i : Int} (h : L2.atI xs i = some x) : RV2 K (rIx K) (.scr xs) (.int i) (.d x) := by
  intro He Ge H G σ δ v u ok rv ru Q q
  cases ru
  cases rv with
  | scr hl r =>
    obtain ⟨w, e, rw_⟩ := r.atI h
    exact .inl ⟨_, _, i, w, rfl, rfl, ok.gh.l hl, e, q _ _ (done ok rw_)⟩
theorem ix_tup {xs : List D} {i : Int} (h : L2.atI xs i = some x) : RV2 K (rIx K) (.tup xs) (.int i) (.d x) := by
  intro He Ge H G σ δ v u ok rv ru Q q
  cases ru
  cases rv with
  | tup hl r =>
    obtain ⟨w, e, rw_⟩ := r.atI h
    exact .inr (.inl ⟨_, _, i, w, rfl, rfl, ok.gh.t hl, e, q _ _ (done ok rw_)⟩)
theorem ix_str {z : Str} {i : Int} {c : Nat} (hz : z.length ≤ sizeLine) (h : L2.atI z.cps.toList i = some c) : RV2 K (rIx K) (.str z) (.int i) (.d (.str ⟨#[c]⟩)) := by
  intro He Ge H G σ δ v u ok rv ru Q q
  cases ru; cases rv
  exact .inr (.inr ⟨z, i, c, rfl, rfl, hz, h, q _ _ (done ok .str)⟩)
/-- len -/
theorem len_lst {xs : List D} : RVN K (fun vs H Q => ∃ x n, vs = [x] ∧ LenV K x H n ∧ Q (.int n) H) [.lst xs] (.d (.int xs.length)) := by
  intro He Ge H G σ δ vs ok r Q q
  cases r with
  | cons r0 r2 =>
    cases r2
    cases r0 with
    | lst h r => exact ⟨_, xs.length, rfl, .inl ⟨_, SqL.of (ok.gh _ _ h), r.length⟩, q _ _ (done ok .int)⟩
theorem len_scr {xs : List D} : RVN K (fun vs H Q => ∃ x n, vs = [x] ∧ LenV K x H n ∧ Q (.int n) H) [.scr xs] (.d (.int xs.length)) := by
  intro He Ge H G σ δ vs ok r Q q
  cases r with
  | cons r0 r2 =>
    cases r2
    cases r0 with
    | scr h r => exact ⟨_, xs.length, rfl, .inl ⟨_, ok.gh.l h, r.length⟩, q _ _ (done ok .int)⟩
theorem len_tup {xs : List D} : RVN K (fun vs H Q => ∃ x n, vs = [x] ∧ LenV K x H n ∧ Q (.int n) H) [.tup xs] (.d (.int xs.length)) := by
  intro He Ge H G σ δ vs ok r Q q
  cases r with
  | cons r0 r2 =>
    cases r2
    cases r0 with
    | tup h r => exact ⟨_, xs.length, rfl, .inr ⟨_, ok.gh.t h, r.length⟩, q _ _ (done ok .int)⟩
theorem len_str {z : Str} (hz : z.length ≤ sizeLine) : RVN K (fun vs H Q => ∃ x n, vs = [x] ∧ LenV K x H n ∧ Q (.int n) H) [.str z] (.d (.int z.length)) := by
  intro He Ge H G σ δ vs ok r Q q
  cases r with
  | cons r0 r2 => cases r2; cases r0; exact ⟨_, z.length, rfl, ⟨hz, rfl⟩, q _ _ (done ok .int)⟩
theorem min2 {i j : Int} : RVN K (fun xs H Q => ∃ i j, xs = [.int i, .int j] ∧ Q (.int (if j < i then j else i)) H) [.int i, .int j] (.d (.int (min i j))) := by
  intro He Ge H G σ δ vs ok r Q q
  cases r with
  | cons r0 r2 =>
    cases r0
    cases r2 with
    | cons r0 r2 =>
      cases r0; cases r2
      have e : (if j < i then j else i) = min i j := by split <;> omega
      exact ⟨i, j, rfl, by rw [e]; exact q _ _ (done ok .int)⟩
theorem max2 {i j : Int} : RVN K (fun xs H Q => ∃ i j, xs = [.int i, .int j] ∧ Q (.int (if j > i then j else i)) H) [.int i, .int j] (.d (.int (max i j))) := by
  intro He Ge H G σ δ vs ok r Q q
  cases r with
  | cons r0 r2 =>
    cases r0
    cases r2 with
    | cons r0 r2 =>
      cases r0; cases r2
      have e : (if j > i then j else i) = max i j := by split <;> omega
      exact ⟨i, j, rfl, by rw [e]; exact q _ _ (done ok .int)⟩
theorem all_bls {bs : List Bool} : RVN K (rAll K) [.lst (bs.map .bl)] (.d (.bl (bs.all id))) := by
  intro He Ge H G σ δ vs ok r Q q
  cases r with
  | cons r0 r2 =>
    cases r2
    cases r0 with
    | lst h r =>
      have e : ∀ {bs : List Bool} {vs : List V}, RpL K G (bs.map .bl) vs → vs = bs.map V.bl := by
        intro bs
        induction bs with
        | nil => intro vs r; cases r; rfl
        | cons b bs ih => intro vs r; cases r with | cons r0 r => cases r0; rw [ih r]; rfl
      have := e r
      subst this
      exact ⟨_, bs, rfl, SqL.of (ok.gh _ _ h), q _ _ (done ok .bl)⟩
/-! ### isinstance of built-in kinds -/
def tyN : D → String
  | .non => "NoneType" | .bl _ => "bool" | .int _ => "int" | .str _ => "str" | .tup _ => "tuple" | .lst _ => "list" | .scr _ => "list" | .ty _ => "type" | .cls _ => "type" | .ins _ _ => "object" | .dK _ => "dict" | .exc _ _ => "object"
def known : D → Bool
  | .non => true | .bl _ => true | .int _ => true | .str _ => true | .tup _ => true | .lst _ => true | .dK _ => true | _ => false
def isTy (x : D) (n : String) : Bool := (kitB (tyN x) n).getD false
theorem known_ty {G H : Hp} {v : V} (hk : known x = true) (e : Ex G H) (r : Rp K G x v) : TyX K H v (.type (tyN x)) := by
  cases r with
  | non => exact .base .non
  | bl => exact .base (.bl _)
  | int => exact .base (.int _)
  | str => exact .base (.str _)
  | tup h r =>
    rcases h with (h | ⟨o, h⟩) | ⟨o, its, n, h1, h2, _⟩
    · exact .base (.tup (e _ _ h))
    · exact .fTuple (e _ _ h)
    · exact .kTuple h1 h2
  | lst h r => exact .base (.lst (e _ _ h))
  | dK h r => exact .base (.dK (e _ _ h))
  | _ => simp [known] at hk
theorem isi_ty {n : String} (hk : known x = true) (h : (kitB (tyN x) n).isSome = true) : RVN K (rIsi K) [x, .ty n] (.d (.bl (isTy x n))) := by
  intro He Ge H G σ δ vs ok r Q q
  cases r with
  | cons r0 r2 =>
    cases r2 with
    | cons r1 r2 =>
      cases r1; cases r2
      refine ⟨_, _, _, _, isTy x n, rfl, .ty n, known_ty hk ok.gh r0, kit_ty ?_, q _ _ (done ok .bl)⟩
      unfold isTy
      cases e : kitB (tyN x) n with
      | none => rw [e] at h; cases h
      | some b => rfl
end
end Far
/-! More rules: least and greatest with a default, what is walked, slices. -/
namespace Far
open PySem L2 PyProof.Rows
section
variable {X : Cx}
/-! ### either rule -/
theorem PI.or {tg l : Expr} {a b : TI} (h : PI X tg l a) (h' : PI X tg l b) : PI X tg l (fun σ H R => a σ H R ∨ b σ H R) := ⟨fun pins s σ H R I q => q.elim (h.run pins s σ H R I) (h'.run pins s σ H R I)⟩
theorem PG.or {tg : Expr} {a b : TG} (h : PG X tg a) (h' : PG X tg b) : PG X tg (fun v σ H Q => a v σ H Q ∨ b v σ H Q) := ⟨fun pins s σ H v u Q I r q => q.elim (h.run pins s σ H v u Q I r) (h'.run pins s σ H v u Q I r)⟩
/-! ### max(xs, default=d), min .. -/
def rMxD (f : Int → Int → Int) (K : PySem.W.Frag) : List V → List V → Hp → VK → Prop := fun xs zs H Q => ∃ (a : Addr) (ns : List Int) (d : V), xs = [.ref a] ∧ zs = [d] ∧ SqL K H a (ns.map V.int) ∧
  match ns with | [] => Q d H | n :: r => Q (.int (r.foldl f n)) H
theorem reads_ints {h : Heap} : ∀ {us : List Value} {ns : List Int}, IntsAre us ns → ReadsAll h us (ns.map PyData.int) []
  | _, _, .nil => .nil
  | _, _, .cons n t r => by
    have := ReadsAll.cons (Reads.int (h := h) n t) (reads_ints r)
    exact this
theorem alike_ints (ns : List Int) : PySem.W.AlikeAll (ns.map PyData.int) := by
  refine ⟨fun x hx y hy => ?_, fun x hx => ?_⟩
  · obtain ⟨i, _, rfl⟩ := List.mem_map.mp hx
    obtain ⟨j, _, rfl⟩ := List.mem_map.mp hy
    rfl
  · obtain ⟨i, _, rfl⟩ := List.mem_map.mp hx
    exact fun z => nomatch z
theorem depth_ints : ∀ ns : List Int, PyData.depthAll (ns.map PyData.int) = 0
  | [] => rfl
  | n :: r => by rw [List.map_cons]; unfold PyData.depthAll; rw [depth_ints r]; rfl
theorem call_maxD (hc : X.calm = true) (hu : X.A.units + 64 < cLine) : CallRK X (.builtin "max") ["default"] (rMxD max X.K) := by
  intro pins s σ H xs zs us ws Q I r rz q
  obtain ⟨a, ns, d, rfl, rfl, hs, q⟩ := q
  obtain ⟨its, rv, hl, _⟩ := I.list hs
  rw [Vals.ref1 r]
  obtain ⟨u, rfl, ru⟩ := Vals.one rz
  have hi := Vals.ints rv
  refine PySem.W.max_list_default (I.ok.hd hc) hl.isList (xs := ns.map PyData.int) (reads_ints hi) (alike_ints ns) (by rw [depth_ints]; omega) (fun e h' tk hk => ?_) fun y ys i v h' tk bs e hv hr hk => ?_
  · cases ns with
    | nil => exact ⟨d, H, I.kept hk, ru, q⟩
    | cons n r => simp at e
  · cases ns with
    | nil => simp at e
    | cons n r =>
      rw [List.map_cons] at e
      injection e with e1 e2
      subst e1; subst e2
      rw [PySem.W.maxD_ints] at hr
      cases hr
      exact ⟨.int _, H, I.kept hk, ⟨_, rfl⟩, q⟩
theorem call_minD (hc : X.calm = true) (hu : X.A.units + 64 < cLine) : CallRK X (.builtin "min") ["default"] (rMxD min X.K) := by
  intro pins s σ H xs zs us ws Q I r rz q
  obtain ⟨a, ns, d, rfl, rfl, hs, q⟩ := q
  obtain ⟨its, rv, hl, _⟩ := I.list hs
  rw [Vals.ref1 r]
  obtain ⟨u, rfl, ru⟩ := Vals.one rz
  have hi := Vals.ints rv
  refine PySem.W.min_list_default (I.ok.hd hc) hl.isList (xs := ns.map PyData.int) (reads_ints hi) (alike_ints ns) (by rw [depth_ints]; omega) (fun e h' tk hk => ?_) fun y ys i v h' tk bs e hv hr hk => ?_
  · cases ns with
    | nil => exact ⟨d, H, I.kept hk, ru, q⟩
    | cons n r => simp at e
  · cases ns with
    | nil => simp at e
    | cons n r =>
      rw [List.map_cons] at e
      injection e with e1 e2
      subst e1; subst e2
      rw [PySem.W.minD_ints] at hr
      cases hr
      exact ⟨.int _, H, I.kept hk, ⟨_, rfl⟩, q⟩
/-! ### what is walked: a list or a tuple -/
def iSeq (K : PySem.W.Frag) (te : TE) : TI := fun σ H R => iList K te σ H R ∨ iTup K te σ H R
theorem pi_seq {tg l : Expr} {te : TE} (h : PE X l te) : PI X tg l (iSeq X.K te) := PI.or (pi_list h) (pi_tup h)
def gSeq (K : PySem.W.Frag) (n : Nat) (gs : TGs) : TG := fun v σ H Q => gTup K n gs v σ H Q ∨ gLst K n gs v σ H Q
theorem pg_seq {es : List Expr} {k : Nat} {pos : Pos} {t : TGs} {n : Nat} (hc : X.calm = true) (h : PGs X es t) (hn : (assignEach es X.env).length = n := by rfl) (hst : (assignEach es X.env).findIdx? (·.1) = none := by rfl) : PG X (.Tuple es k pos) (gSeq X.K n t) :=
  PG.or (pg_tup hc h hn hst) (pg_lst hc h hn hst)
def iRngU1 (ta : TA) : TI := iRng1 ta
def iRngU2 (ta : TA) : TI := iRng2 ta
theorem pi_rangeU1 {tg a : Expr} {ta : TA} {p pos : Pos} (hg : Gl X "range") (hm : X.mg "range" = none) (ha : PA X [a] ta) (hs : starEach [a] X.env = [(false, eval a X.env)] := by rfl) : PI X tg (.Call (.Name "range" p) [a] [] pos) (iRngU1 ta) := pi_range1 hg hm ha hs
theorem pi_rangeU2 {tg a b : Expr} {ta : TA} {p pos : Pos} (hg : Gl X "range") (hm : X.mg "range" = none) (ha : PA X [a, b] ta) (hs : starEach [a, b] X.env = [(false, eval a X.env), (false, eval b X.env)] := by rfl) (hs2 : starEach [b] X.env = [(false, eval b X.env)] := by rfl) : PI X tg (.Call (.Name "range" p) [a, b] [] pos) (iRngU2 ta) := pi_range2 hg hm ha hs hs2
/-! ### calls of types -/
def rTupU (K : PySem.W.Frag) : List V → Hp → VK → Prop := fun xs H Q => ∃ p ys, xs = [.ref p] ∧ ((SqL K H p ys ∧ ∀ l, H l = none → Q (.ref l) (upd H l (.tup ys))) ∨ (SqT K H p ys ∧ Q (.ref p) H))
theorem call_tupleU : CallR X (.type "tuple") (rTupU X.K) := call_tuple_of
def rLstU (K : PySem.W.Frag) : List V → Hp → VK → Prop := fun xs H Q => ∃ p ys, xs = [.ref p] ∧ (SqL K H p ys ∨ SqT K H p ys) ∧ ∀ l, H l = none → Q (.ref l) (upd H l (.lst ys))
theorem call_listU : CallR X (.type "list") (rLstU X.K) := call_list_of
def rIntU : List V → Hp → VK → Prop := fun xs H Q => ((∃ i, xs = [.int i] ∧ Q (.int i) H) ∨ ∃ k, xs = [.bl k] ∧ Q (.int (if k then 1 else 0)) H) ∨ ∃ a n, xs = [.str a] ∧ PySem.intText? a = some n ∧ a.length ≤ 640 ∧ Q (.int n) H
theorem call_intU : CallR X (.type "int") rIntU := CallR.or call_int1 call_int_str
def rStrU : List V → Hp → VK → Prop := fun xs H Q => (∃ i, xs = [.int i] ∧ i.natAbs.log2 < 1920 ∧ Q (.str (toString i)) H) ∨ ∃ a, xs = [.str a] ∧ Q (.str a) H
theorem call_strU : CallR X (.type "str") rStrU := CallR.or call_str_int SkE.call_str_str
abbrev rLenU (K : PySem.W.Frag) : List V → Hp → VK → Prop := fun xs H Q => ∃ x n, xs = [x] ∧ LenV K x H n ∧ Q (.int n) H
abbrev rMx2 : List V → Hp → VK → Prop := fun xs H Q => ∃ i j, xs = [.int i, .int j] ∧ Q (.int (if j > i then j else i)) H
abbrev rMn2 : List V → Hp → VK → Prop := fun xs H Q => ∃ i j, xs = [.int i, .int j] ∧ Q (.int (if j < i then j else i)) H
/-! ### slices -/
def rSlU (K : PySem.W.Frag) : V → Option Int → Option Int → Hp → VK → Prop := fun x lo hi H Q => rSlL K x lo hi H Q ∨ (rSlA K x lo hi H Q ∨ rSlS x lo hi H Q)
theorem sl_U : SlR X (rSlU X.K) := SlR.or sl_list (SlR.or sl_tupA sl_str)
/-! ### in -/
def rInU (K : PySem.W.Frag) : R2 := fun x y H Q => rIn K false x y H Q ∨ ∃ i j, x = .str i ∧ y = .str j ∧ Q (.bl (!(Builtin.Str.occurrences j i 0 j.length 1).isEmpty)) H
def rNotInU (K : PySem.W.Frag) : R2 := fun x y H Q => rIn K true x y H Q ∨ ∃ i j, x = .str i ∧ y = .str j ∧ Q (.bl (!(!(Builtin.Str.occurrences j i 0 j.length 1).isEmpty))) H
theorem op_inU : OpR X (compareOp .In) (rInU X.K) := OpR.or op_in_seq op_in_str
theorem op_notInU : OpR X (compareOp .NotIn) (rNotInU X.K) := OpR.or op_notIn_seq op_notIn_str
end
section
variable {K : PySem.W.Frag} {δ : List S} {te ta tb : TE} {x y : D} {s : S} {xs ys : List D}
theorem rp_ints_inv {G : Hp} : ∀ {ns : List Int} {vs : List V}, RpL K G (ns.map .int) vs → vs = ns.map V.int
  | [], _, .nil => rfl
  | _ :: _, _, .cons h r => by cases h; rw [rp_ints_inv r]; rfl
def mxD (f : Int → Int → Int) : List Int → D → D
  | [], d => d
  | n :: r, _ => .int (r.foldl f n)
theorem ev_mxD {f : Int → Int → Int} {t tk : TA} {ns : List Int} (h1 : EA K t δ [.lst (ns.map .int)]) (h2 : EA K tk δ [y]) : EV K (tCKw (rMxD f K) t tk) δ (.d (mxD f ns y)) := by
  intro He Ge H τo τs σ hl ok Q q
  refine h1 He Ge H τo τs σ hl ok _ fun vs H1 G1 ok1 r1 => ?_
  cases r1 with
  | cons r1 r2 =>
    cases r2
    refine h2 He Ge H1 (some _ :: τo) (.d (.lst (ns.map .int)) :: τs) σ (by simp [hl]) ⟨G1, ok1.pushD r1⟩ _ fun zs H2 G2 ok2 rz => ?_
    obtain ⟨_, e, rl⟩ := ok2.top
    cases e
    cases rz with
    | cons rd r3 =>
      cases r3
      cases rl with
      | lst hl2 rr =>
        have e2 := rp_ints_inv rr
        subst e2
        refine ⟨_, ns, _, rfl, rfl, SqL.of (ok2.gh _ _ hl2), ?_⟩
        cases ns with
        | nil => exact q _ _ (done ok2.pop rd)
        | cons n r => exact q _ _ (done ok2.pop .int)
theorem ei_seqL (h : EV K te δ (.d (.lst xs))) : EI K (iSeq K te) δ xs := fun He Ge H τo τs σ hl ok R q => .inl (ei_list h He Ge H τo τs σ hl ok R q)
theorem ei_seqT (h : EV K te δ (.d (.tup xs))) : EI K (iSeq K te) δ xs := fun He Ge H τo τs σ hl ok R q => .inr (ei_tup h He Ge H τo τs σ hl ok R q)
theorem ei_rngU1 {n : Int} {tr : TA} (h : EA K tr δ [.int n]) (h1 : -(2 ^ 62) ≤ n) (h2 : n < 2 ^ 62) : EI K (iRngU1 tr) δ (rg 0 n.toNat) := ei_rng1 h h1 h2
theorem ei_rngU2 {m n : Int} {tr : TA} (h : EA K tr δ [.int m, .int n]) (h1 : -(2 ^ 62) ≤ m ∧ m < 2 ^ 62 ∧ -(2 ^ 62) ≤ n ∧ n < 2 ^ 62) : EI K (iRngU2 tr) δ (rg m (n - m).toNat) := ei_rng2 h h1
theorem et_seqT {n : Nat} {gs : TGs} {δ' : List S} (h : ETs K gs δ xs δ') (hn : xs.length = n) : ET K (gSeq K n gs) δ (.tup xs) δ' := fun He Ge H G τo τs σ v hl ok r Q q => .inl (et_tup h hn He Ge H G τo τs σ v hl ok r Q q)
theorem et_seqL {n : Nat} {gs : TGs} {δ' : List S} (h : ETs K gs δ xs δ') (hn : xs.length = n) : ET K (gSeq K n gs) δ (.lst xs) δ' := fun He Ge H G τo τs σ v hl ok r Q q => .inr (et_lst h hn He Ge H G τo τs σ v hl ok r Q q)
theorem gok_seq {n : Nat} {gs : TGs} {vs : List Nat} (h : GsOk gs vs) : GOk (gSeq K n gs) vs := fun v σ H Q q => q.imp (fun ⟨a, xs, e, h1, h2, q⟩ => ⟨a, xs, e, h1, h2, h xs σ H Q q⟩) fun ⟨a, xs, e, h1, h2, q⟩ => ⟨a, xs, e, h1, h2, h xs σ H Q q⟩
theorem ev_dnew : EV K tDNewK δ (.d (.dK [])) := by
  intro He Ge H τo τs σ hl ⟨G, ok⟩ Q q
  intro p hp
  exact q _ _ ⟨_, (ok.newG hp).pushD (.dK upd_same .nil)⟩
theorem tuple_lst : RVN K (rTupU K) [.lst xs] (.d (.tup xs)) := by
  intro He Ge H G σ δ vs ok r Q q
  cases r with
  | cons r0 r2 =>
    cases r2
    cases r0 with
    | lst h r => exact ⟨_, _, rfl, .inl ⟨SqL.of (ok.gh _ _ h), fun l hl => q _ _ (doneT ok hl r)⟩⟩
theorem tuple_tup : RVN K (rTupU K) [.tup xs] (.d (.tup xs)) := by
  intro He Ge H G σ δ vs ok r Q q
  cases r with
  | cons r0 r2 =>
    cases r2
    cases r0 with
    | tup h r => exact ⟨_, _, rfl, .inr ⟨ok.gh.t h, q _ _ (done ok (.tup h r))⟩⟩
theorem list_lst : RVN K (rLstU K) [.lst xs] (.own xs) := by
  intro He Ge H G σ δ vs ok r Q q
  cases r with
  | cons r0 r2 =>
    cases r2
    cases r0 with
    | lst h r => exact ⟨_, _, rfl, .inl (SqL.of (ok.gh _ _ h)), fun l hl => q _ _ (doneL ok hl r)⟩
theorem list_tup : RVN K (rLstU K) [.tup xs] (.own xs) := by
  intro He Ge H G σ δ vs ok r Q q
  cases r with
  | cons r0 r2 =>
    cases r2
    cases r0 with
    | tup h r => exact ⟨_, _, rfl, .inr (ok.gh.t h), fun l hl => q _ _ (doneL ok hl r)⟩
theorem int_int {i : Int} : RVN K rIntU [.int i] (.d (.int i)) := by
  intro He Ge H G σ δ vs ok r Q q
  cases r with
  | cons r0 r2 => cases r0; cases r2; exact .inl (.inl ⟨i, rfl, q _ _ (done ok .int)⟩)
theorem int_bl {b : Bool} : RVN K rIntU [.bl b] (.d (.int (if b then 1 else 0))) := by
  intro He Ge H G σ δ vs ok r Q q
  cases r with
  | cons r0 r2 => cases r0; cases r2; exact .inl (.inr ⟨b, rfl, q _ _ (done ok .int)⟩)
theorem str_int {i : Int} (h : i.natAbs.log2 < 1920) : RVN K rStrU [.int i] (.d (.str (toString i))) := by
  intro He Ge H G σ δ vs ok r Q q
  cases r with
  | cons r0 r2 => cases r0; cases r2; exact .inl ⟨i, rfl, h, q _ _ (done ok .str)⟩
theorem str_str {z : Str} : RVN K rStrU [.str z] (.d (.str z)) := by
  intro He Ge H G σ δ vs ok r Q q
  cases r with
  | cons r0 r2 => cases r0; cases r2; exact .inr ⟨z, rfl, q _ _ (done ok .str)⟩

variable {t : TT} {b : Bool}
theorem ev_ifI {i j : Int} (h : EB K t δ b) (h1 : b = true → EV K ta δ (.d (.int i))) (h2 : b = false → EV K tb δ (.d (.int j))) : EV K (tIf t ta tb) δ (.d (.int (if b = true then i else j))) := ev_is (ev_if h h1 h2) (by cases b <;> rfl)
theorem ev_ifB {i j : Bool} (h : EB K t δ b) (h1 : b = true → EV K ta δ (.d (.bl i))) (h2 : b = false → EV K tb δ (.d (.bl j))) : EV K (tIf t ta tb) δ (.d (.bl (if b = true then i else j))) := ev_is (ev_if h h1 h2) (by cases b <;> rfl)
theorem ev_ifS {i j : Str} (h : EB K t δ b) (h1 : b = true → EV K ta δ (.d (.str i))) (h2 : b = false → EV K tb δ (.d (.str j))) : EV K (tIf t ta tb) δ (.d (.str (if b = true then i else j))) := ev_is (ev_if h h1 h2) (by cases b <;> rfl)
theorem ev_ifD {x y : D} (h : EB K t δ b) (h1 : b = true → EV K ta δ (.d x)) (h2 : b = false → EV K tb δ (.d y)) : EV K (tIf t ta tb) δ (.d (if b = true then x else y)) := ev_is (ev_if h h1 h2) (by cases b <;> rfl)
theorem ev_ifT (h : EB K t δ true) (h1 : EV K ta δ s) : EV K (tIf t ta tb) δ s := ev_if1 h (fun _ => h1) fun z => nomatch z
theorem ev_ifF (h : EB K t δ false) (h1 : EV K tb δ s) : EV K (tIf t ta tb) δ s := ev_if1 h (fun z => nomatch z) fun _ => h1

theorem RpL.cut {G : Hp} {xs : List D} {vs : List V} (r : RpL K G xs vs) (lo hi : Option Int) : RpL K G ((xs.drop (HT.sIx xs.length 0 lo)).take (HT.sIx xs.length xs.length hi - HT.sIx xs.length 0 lo)) (cutV vs lo hi) := by
  unfold cutV
  rw [r.length]
  exact (r.drop _).take _
def cutD (xs : List D) (lo hi : Option Int) : List D := (xs.drop (HT.sIx xs.length 0 lo)).take (HT.sIx xs.length xs.length hi - HT.sIx xs.length 0 lo)
def EO (K : PySem.W.Frag) (to : TO) (δ : List S) (o : Option Int) : Prop := ∀ (He Ge H : Hp) (τo : L2.St) (τs : List S) (σ : L2.St), τo.length = τs.length → OK K He Ge H (τo ++ σ) (τs ++ δ) →
  ∀ Q : Option Int → Hp → Prop, (∀ H', OK K He Ge H' (τo ++ σ) (τs ++ δ) → Q o H') → to σ H Q
theorem eo_none : EO K tNoPart δ none := fun He Ge H τo τs σ hl ok Q q => q H ok
theorem eo_some {i : Int} (h : EV K te δ (.d (.int i))) : EO K (tPart te) δ (some i) := by
  intro He Ge H τo τs σ hl ok Q q
  refine h He Ge H τo τs σ hl ok _ fun v H1 ⟨G, ok1⟩ => ?_
  obtain ⟨_, e, r⟩ := ok1.top
  cases e; cases r
  exact ⟨i, rfl, q H1 ⟨G, ok1.pop⟩⟩
variable {tl th : TO} {lo hi : Option Int}
theorem ev_slG {r : V → Option Int → Option Int → Hp → VK → Prop} (h : EV K te δ (.d x)) (h1 : EO K tl δ lo) (h2 : EO K th δ hi)
    (hr : ∀ (He Ge H G : Hp) (σ : L2.St) (δ : List S) (v : V), OKG K He Ge H G σ δ → Rp K G x v → ∀ Q : VK, (∀ z H', OK K He Ge H' (some z :: σ) (s :: δ) → Q z H') → r v lo hi H Q) : EV K (tSl r te tl th) δ s := by
  intro He Ge H τo τs σ hl ok Q q
  refine h He Ge H τo τs σ hl ok _ fun v H1 ok1 => ?_
  refine h1 He Ge H1 (some v :: τo) (.d x :: τs) σ (by simp [hl]) ok1 _ fun H2 ok2 => ?_
  refine h2 He Ge H2 (some v :: τo) (.d x :: τs) σ (by simp [hl]) ok2 _ fun H3 ⟨G, ok3⟩ => ?_
  obtain ⟨_, e, rr⟩ := ok3.top
  cases e
  exact hr He Ge H3 G _ _ v ok3.pop rr Q q
theorem ev_slL (h : EV K te δ (.d (.lst xs))) (h1 : EO K tl δ lo) (h2 : EO K th δ hi) : EV K (tSl (rSlU K) te tl th) δ (.own (cutD xs lo hi)) := ev_slG h h1 h2 fun He Ge H G σ δ v ok r Q q => by
  cases r with
  | lst hh rr => exact .inl ⟨_, _, rfl, SqL.of (ok.gh _ _ hh), fun p hp => q _ _ (doneL ok hp (rr.cut lo hi))⟩
theorem ev_slT (h : EV K te δ (.d (.tup xs))) (h1 : EO K tl δ lo) (h2 : EO K th δ hi) : EV K (tSl (rSlU K) te tl th) δ (.d (.tup (cutD xs lo hi))) := ev_slG h h1 h2 fun He Ge H G σ δ v ok r Q q => by
  cases r with
  | tup hh rr =>
    refine .inr (.inl ⟨_, _, rfl, ok.gh.t hh, fun ⟨e1, e2⟩ => ?_, fun _ p hp => q _ _ (doneT ok hp (rr.cut lo hi))⟩)
    rw [← rr.length] at e1 e2
    have e : cutD xs lo hi = xs := by unfold cutD; rw [e1, e2, List.drop_zero, Nat.sub_zero, List.take_length]
    rw [e] at q
    exact q _ _ (done ok (.tup hh rr))
theorem ev_slS {z : Str} (h : EV K te δ (.d (.str z))) (h1 : EO K tl δ lo) (h2 : EO K th δ hi) (hz : z.length ≤ sizeLine) : EV K (tSl (rSlU K) te tl th) δ (.d (.str (cutS z lo hi))) := ev_slG h h1 h2 fun He Ge H G σ δ v ok r Q q => by
  cases r
  exact .inr (.inr ⟨z, rfl, hz, q _ _ (done ok .str)⟩)
end
end Far
namespace Far
open PySem L2
/-! which built-in kind a value is of -/
theorem isTy_non_int : isTy .non "int" = false := by show (kitB "NoneType" "int").getD false = false; decide +kernel
theorem isTy_non_bool : isTy .non "bool" = false := by show (kitB "NoneType" "bool").getD false = false; decide +kernel
theorem isTy_non_tuple : isTy .non "tuple" = false := by show (kitB "NoneType" "tuple").getD false = false; decide +kernel
theorem isTy_non_list : isTy .non "list" = false := by show (kitB "NoneType" "list").getD false = false; decide +kernel
theorem isTy_non_str : isTy .non "str" = false := by show (kitB "NoneType" "str").getD false = false; decide +kernel
theorem isTy_bl_int {b : Bool} : isTy (.bl b) "int" = true := by show (kitB "bool" "int").getD false = true; decide +kernel
theorem isTy_bl_bool {b : Bool} : isTy (.bl b) "bool" = true := by show (kitB "bool" "bool").getD false = true; decide +kernel
theorem isTy_bl_tuple {b : Bool} : isTy (.bl b) "tuple" = false := by show (kitB "bool" "tuple").getD false = false; decide +kernel
theorem isTy_bl_list {b : Bool} : isTy (.bl b) "list" = false := by show (kitB "bool" "list").getD false = false; decide +kernel
theorem isTy_bl_str {b : Bool} : isTy (.bl b) "str" = false := by show (kitB "bool" "str").getD false = false; decide +kernel
theorem isTy_int_int {i : Int} : isTy (.int i) "int" = true := by show (kitB "int" "int").getD false = true; decide +kernel
theorem isTy_int_bool {i : Int} : isTy (.int i) "bool" = false := by show (kitB "int" "bool").getD false = false; decide +kernel
theorem isTy_int_tuple {i : Int} : isTy (.int i) "tuple" = false := by show (kitB "int" "tuple").getD false = false; decide +kernel
theorem isTy_int_list {i : Int} : isTy (.int i) "list" = false := by show (kitB "int" "list").getD false = false; decide +kernel
theorem isTy_int_str {i : Int} : isTy (.int i) "str" = false := by show (kitB "int" "str").getD false = false; decide +kernel
theorem isTy_str_int {x : Str} : isTy (.str x) "int" = false := by show (kitB "str" "int").getD false = false; decide +kernel
theorem isTy_str_bool {x : Str} : isTy (.str x) "bool" = false := by show (kitB "str" "bool").getD false = false; decide +kernel
theorem isTy_str_tuple {x : Str} : isTy (.str x) "tuple" = false := by show (kitB "str" "tuple").getD false = false; decide +kernel
theorem isTy_str_list {x : Str} : isTy (.str x) "list" = false := by show (kitB "str" "list").getD false = false; decide +kernel
theorem isTy_str_str {x : Str} : isTy (.str x) "str" = true := by show (kitB "str" "str").getD false = true; decide +kernel
theorem isTy_tup_int {xs : List D} : isTy (.tup xs) "int" = false := by show (kitB "tuple" "int").getD false = false; decide +kernel
theorem isTy_tup_bool {xs : List D} : isTy (.tup xs) "bool" = false := by show (kitB "tuple" "bool").getD false = false; decide +kernel
theorem isTy_tup_tuple {xs : List D} : isTy (.tup xs) "tuple" = true := by show (kitB "tuple" "tuple").getD false = true; decide +kernel
theorem isTy_tup_list {xs : List D} : isTy (.tup xs) "list" = false := by show (kitB "tuple" "list").getD false = false; decide +kernel
theorem isTy_tup_str {xs : List D} : isTy (.tup xs) "str" = false := by show (kitB "tuple" "str").getD false = false; decide +kernel
theorem isTy_lst_int {xs : List D} : isTy (.lst xs) "int" = false := by show (kitB "list" "int").getD false = false; decide +kernel
theorem isTy_lst_bool {xs : List D} : isTy (.lst xs) "bool" = false := by show (kitB "list" "bool").getD false = false; decide +kernel
theorem isTy_lst_tuple {xs : List D} : isTy (.lst xs) "tuple" = false := by show (kitB "list" "tuple").getD false = false; decide +kernel
theorem isTy_lst_list {xs : List D} : isTy (.lst xs) "list" = true := by show (kitB "list" "list").getD false = true; decide +kernel
theorem isTy_lst_str {xs : List D} : isTy (.lst xs) "str" = false := by show (kitB "list" "str").getD false = false; decide +kernel
theorem isTy_dK_int {kvs : List (Key × D)} : isTy (.dK kvs) "int" = false := by show (kitB "dict" "int").getD false = false; decide +kernel
theorem isTy_dK_bool {kvs : List (Key × D)} : isTy (.dK kvs) "bool" = false := by show (kitB "dict" "bool").getD false = false; decide +kernel
theorem isTy_dK_tuple {kvs : List (Key × D)} : isTy (.dK kvs) "tuple" = false := by show (kitB "dict" "tuple").getD false = false; decide +kernel
theorem isTy_dK_list {kvs : List (Key × D)} : isTy (.dK kvs) "list" = false := by show (kitB "dict" "list").getD false = false; decide +kernel
theorem isTy_dK_str {kvs : List (Key × D)} : isTy (.dK kvs) "str" = false := by show (kitB "dict" "str").getD false = false; decide +kernel
theorem tyN_mem {x : D} (h : known x = true) : tyN x ∈ ["NoneType", "bool", "int", "str", "tuple", "list", "dict"] := by
  cases x <;> first | (simp [known] at h; done) | (simp [tyN])
theorem kit_all : ∀ t ∈ ["NoneType", "bool", "int", "str", "tuple", "list", "dict"], ∀ n ∈ ["int", "bool", "tuple", "list", "str"], (kitB t n).isSome = true := by decide +kernel
theorem kit_any {x : D} {n : String} (h : known x = true) (hn : n ∈ ["int", "bool", "tuple", "list", "str"]) : (kitB (tyN x) n).isSome = true := kit_all _ (tyN_mem h) _ hn
theorem isTy_tuple {x : D} (h : isTy x "tuple" = true) (hk : known x = true) : ∃ xs, x = .tup xs := by
  cases x <;> first | (simp [known] at hk; done) | exact ⟨_, rfl⟩ | (first | rw [isTy_non_tuple] at h | rw [isTy_bl_tuple] at h | rw [isTy_int_tuple] at h | rw [isTy_str_tuple] at h | rw [isTy_lst_tuple] at h | rw [isTy_dK_tuple] at h); cases h
theorem cdiv_small {i j : Int} (h : 0 < j) (h2 : j < 1073741824) : CDivW i j := wide_div (b := 30) h (by rw [show (2:Nat)^30 = 1073741824 from by decide]; omega) (by decide) (by decide)
theorem sd_setD {K : PySem.W.Frag} {δ : List S} {te : TE} {x : D} {E : WX} {N B C : List S → Prop} {R : S → Prop} {X : List S → Addr → List (Str × D) → Prop} {i : Nat} (h : EV K te δ (.d x)) (hi : i < δ.length) (n : N (δ.set i (.d x))) : SD K E (tAsg te (gName i)) δ N R B C X := sd_set h hi n
theorem known_get {xs : List D} {x : D} (h : xs.all known = true) (hx : x ∈ xs) : known x = true := List.all_eq_true.mp h x hx
theorem all_id {α : Type} (f : α → Bool) (l : List α) : (l.map f).all id = l.all f := by simp
section
variable {K : PySem.W.Frag} {δ : List S} {te : TE} {wi : TI} {g : TG} {tt : TT} {vs : List Nat}
theorem eb_yes : EB K tYes δ true := fun He Ge H τo τs σ hl ok Q q => q H ok
/-- [e for .. in ..], no test; the items told as h of something -/
theorem ev_lc1 {α : Type} {ys : List α} {h f : α → D} (hi : EI K wi δ (ys.map h)) (hg : GOk g vs) (hz : ys.length ≤ sizeLine) (k : ∀ y ∈ ys, ∃ δ2, ET K g (hide δ vs) (h y) δ2 ∧ EV K te δ2 (.d (f y))) : EV K (tLc wi g tYes te vs) δ (.own (ys.map f)) := by
  have z := ev_lc (p := fun _ => true) hi hg hz (fun y hy => by
    obtain ⟨δ2, k1, k2⟩ := k y hy
    exact ⟨δ2, k1, eb_yes, fun _ => k2⟩)
  rwa [List.filter_eq_self.mpr (fun _ _ => rfl)] at z
theorem ev_lcD {ys : List D} {f : D → D} (hi : EI K wi δ ys) (hg : GOk g vs) (hz : ys.length ≤ sizeLine) (k : ∀ y ∈ ys, ∃ δ2, ET K g (hide δ vs) y δ2 ∧ EV K te δ2 (.d (f y))) : EV K (tLc wi g tYes te vs) δ (.own (ys.map f)) :=
  ev_lc1 (h := id) (ei_is hi (List.map_id _).symm) hg hz k
theorem ev_lcF {ys : List D} {p : D → Bool} {f : D → D} (hi : EI K wi δ ys) (hg : GOk g vs) (hz : ys.length ≤ sizeLine) (k : ∀ y ∈ ys, ∃ δ2, ET K g (hide δ vs) y δ2 ∧ EB K tt δ2 (p y) ∧ (p y = true → EV K te δ2 (.d (f y)))) : EV K (tLc wi g tt te vs) δ (.own ((ys.filter p).map f)) :=
  ev_lc (h := id) (ei_is hi (List.map_id _).symm) hg hz k
theorem ev_all {α : Type} {ys : List α} {h : α → D} {b : α → Bool} (hi : EI K wi δ (ys.map h)) (hg : GOk g vs) (hz : ys.length ≤ sizeLine) (k : ∀ y ∈ ys, ∃ δ2, ET K g (hide δ vs) (h y) δ2 ∧ EV K te δ2 (.d (.bl (b y)))) : EV K (tCB (rAll K) (tCons (tLc wi g tYes te vs) tNil)) δ (.d (.bl (ys.all b))) := by
  have e : (ys.map fun y => D.bl (b y)) = (ys.map b).map D.bl := by rw [List.map_map]; rfl
  have z := ev_frz (ev_lc1 hi hg hz k)
  rw [e] at z
  have := ev_cb (ea_cons z ea_nil) all_bls
  rwa [all_id] at this
theorem ev_allD {ys : List D} {b : D → Bool} (hi : EI K wi δ ys) (hg : GOk g vs) (hz : ys.length ≤ sizeLine) (k : ∀ y ∈ ys, ∃ δ2, ET K g (hide δ vs) y δ2 ∧ EV K te δ2 (.d (.bl (b y)))) : EV K (tCB (rAll K) (tCons (tLc wi g tYes te vs) tNil)) δ (.d (.bl (ys.all b))) :=
  ev_all (h := id) (ei_is hi (List.map_id _).symm) hg hz k
/-- short ways, where the left side is known -/
theorem ev_orB1 {ta tb : TE} {a : Bool} (h : EV K ta δ (.d (.bl a))) (e : a = true) : EV K (tOrT K ta tb) δ (.d (.bl true)) := by
  subst e; exact ev_is (ev_orB (b := false) h fun z => nomatch z) rfl
theorem ev_orB0 {ta tb : TE} {a : Bool} {s : S} (h : EV K ta δ (.d (.bl a))) (e : a = false) (h2 : EV K tb δ s) : EV K (tOrT K ta tb) δ s := by
  subst e; exact ev_is (ev_orT h (.bl _) fun _ => h2) rfl
theorem ev_andB1 {ta tb : TE} {a : Bool} (h : EV K ta δ (.d (.bl a))) (e : a = false) : EV K (tAndT K ta tb) δ (.d (.bl false)) := by
  subst e; exact ev_is (ev_andB (b := false) h fun z => nomatch z) rfl
theorem ev_andB0 {ta tb : TE} {a : Bool} {s : S} (h : EV K ta δ (.d (.bl a))) (e : a = true) (h2 : EV K tb δ s) : EV K (tAndT K ta tb) δ s := by
  subst e; exact ev_is (ev_andT h (.bl _) fun _ => h2) rfl
theorem eb_or1 {t u : TT} {a : Bool} (h : EB K t δ a) (e : a = true) : EB K (tOr t u) δ true := by subst e; exact eb_orT h
theorem eb_or0 {t u : TT} {a b : Bool} (h : EB K t δ a) (e : a = false) (h2 : EB K u δ b) : EB K (tOr t u) δ b := by subst e; exact eb_is (eb_or h fun _ => h2) rfl
theorem eb_and1 {t u : TT} {a : Bool} (h : EB K t δ a) (e : a = false) : EB K (tAnd t u) δ false := by subst e; exact eb_andF h
theorem eb_and0 {t u : TT} {a b : Bool} (h : EB K t δ a) (e : a = true) (h2 : EB K u δ b) : EB K (tAnd t u) δ b := by subst e; exact eb_is (eb_and h fun _ => h2) rfl
theorem ev_if1' {t : TT} {ta tb : TE} {a : Bool} {s : S} (h : EB K t δ a) (e : a = true) (h1 : EV K ta δ s) : EV K (tIf t ta tb) δ s := by subst e; exact ev_ifT h h1
theorem ev_if0' {t : TT} {ta tb : TE} {a : Bool} {s : S} (h : EB K t δ a) (e : a = false) (h1 : EV K tb δ s) : EV K (tIf t ta tb) δ s := by subst e; exact ev_ifF h h1
theorem sd_if1 {E : WX} {N B C : List S → Prop} {R : S → Prop} {X : List S → Addr → List (Str × D) → Prop} {t u : TS} {c : TT} {a : Bool} (h : EB K c δ a) (e : a = true) (h1 : SD K E t δ N R B C X) : SD K E (tIfS c t u) δ N R B C X := by subst e; exact sd_if h (fun _ => h1) fun z => nomatch z
theorem sd_if0 {E : WX} {N B C : List S → Prop} {R : S → Prop} {X : List S → Addr → List (Str × D) → Prop} {t u : TS} {c : TT} {a : Bool} (h : EB K c δ a) (e : a = false) (h1 : SD K E u δ N R B C X) : SD K E (tIfS c t u) δ N R B C X := by subst e; exact sd_if h (fun z => nomatch z) fun _ => h1
theorem sz {n : Nat} (h : n ≤ 16777216) : n ≤ sizeLine := by rw [sizeLine_eq]; exact h
/-- an item at a place that is not written -/
theorem atI_getD {α : Type} {xs : List α} {i : Int} {d : α} (h0 : 0 ≤ i) (h1 : i < xs.length) : L2.atI xs i = some (xs.getD i.toNat d) := by
  have h2 : i.toNat < xs.length := by omega
  have e : i = ((i.toNat : Nat) : Int) := by omega
  rw [e]
  refine L2.atI_nat ?_
  rw [Int.toNat_natCast, List.getElem?_eq_getElem h2, List.getD_eq_getElem?_getD, List.getElem?_eq_getElem h2]; rfl
/-- .. of a list of ints -/
theorem atI_ints {xs : List Int} {i : Int} (h0 : 0 ≤ i) (h1 : i < xs.length) : L2.atI (xs.map D.int) i = some (.int (xs.getD i.toNat 0)) := by
  rw [atI_getD (d := D.int 0) h0 (by rw [List.length_map]; exact h1)]
  congr 1
  rw [List.getD_eq_getElem?_getD, List.getElem?_map, List.getD_eq_getElem?_getD]
  cases xs[i.toNat]? <;> rfl
mutual
theorem pur_lay : ∀ {x : D}, pur x = true → (pd x).canLay0 = true
  | .non, _ => by simp [pd, PyData.canLay0]
  | .bl _, _ => by simp [pd, PyData.canLay0]
  | .int _, _ => by simp [pd, PyData.canLay0]
  | .str _, h => by simpa [pd, PyData.canLay0, pur] using h
  | .tup xs, h => by simp only [pd, PyData.canLay0]; exact purL_lay (by simpa [pur] using h)
  | .lst xs, h => by simp only [pd, PyData.canLay0]; exact purL_lay (by simpa [pur] using h)
  | .scr xs, h => by simp only [pd, PyData.canLay0]; exact purL_lay (by simpa [pur] using h)
  | .ty _, h => by simp [pur] at h
  | .cls _, h => by simp [pur] at h
  | .ins _ _, h => by simp [pur] at h
  | .dK _, h => by simp [pur] at h
theorem purL_lay : ∀ {xs : List D}, purL xs = true → PyData.canLayAll0 (pdL xs) = true
  | [], _ => by simp [pdL, PyData.canLayAll0]
  | x :: xs, h => by
    simp only [purL, Bool.and_eq_true] at h
    simp only [pdL, PyData.canLayAll0, Bool.and_eq_true]
    exact ⟨pur_lay h.1, purL_lay h.2⟩
end
theorem shaped_of {x : D} (h : pur x = true) (hd : (pd x).depth ≤ 64) : SeqAt.shaped (pd x) = true := by
  unfold SeqAt.shaped; rw [pur_lay h]; simpa using hd
def eqD (x y : D) : Bool := PyData.eqv (pd x) (pd y)
theorem eq_D {x y : D} (p1 : pur x = true) (p2 : pur y = true) (h1 : (pd x).depth ≤ 64) (h2 : (pd y).depth ≤ 64) : RV2 K (rEqU K) x y (.d (.bl (eqD x y))) := eq_dat p1 p2 (shaped_of p1 h1) (shaped_of p2 h2)
theorem ne_D {x y : D} (p1 : pur x = true) (p2 : pur y = true) (h1 : (pd x).depth ≤ 64) (h2 : (pd y).depth ≤ 64) : RV2 K (rNeU K) x y (.d (.bl (!eqD x y))) := ne_dat p1 p2 (shaped_of p1 h1) (shaped_of p2 h2)
theorem pur_ints : ∀ ns : List Int, purL (ns.map D.int) = true
  | [] => rfl
  | n :: r => by simp [purL, pur, pur_ints r]
theorem depth_intsD : ∀ ns : List Int, PyData.depthAll (pdL (ns.map D.int)) = 0
  | [] => by simp [pdL, PyData.depthAll]
  | n :: r => by simp [pdL, pd, PyData.depthAll, PyData.depth, depth_intsD r]
theorem eqv_nil (xs : List D) : PyData.eqvAll (pdL xs) [] = xs.isEmpty := by cases xs <;> simp [pdL, PyData.eqvAll]
theorem ne_scr_nil {ns : List Int} : RV2 K (rNeU K) (.scr (ns.map .int)) (.lst []) (.d (.bl (!ns.isEmpty))) := by
  have z := ne_D (K := K) (x := .scr (ns.map .int)) (y := .lst []) (by simp [pur, pur_ints]) rfl (by simp [pd, PyData.depth, depth_intsD]) (by simp [pd, pdL, PyData.depth, PyData.depthAll])
  have e : eqD (.scr (ns.map .int)) (.lst []) = ns.isEmpty := by
    simp only [eqD, pd, pdL, PyData.eqv]
    rw [eqv_nil]; cases ns <;> rfl
  rwa [e] at z
theorem weak_refl {δ : List S} : weak δ δ := fun i s h => .inl h
theorem weak_of {δ δ' : List S} (h : δ = δ') : weak δ δ' := h ▸ weak_refl
/-- slot by slot -/
inductive WK : List S → List S → Prop
  | nil : WK [] []
  | same {s : S} {r t : List S} : WK r t → WK (s :: r) (s :: t)
  | un {s : S} {r t : List S} : WK r t → WK (s :: r) (.un :: t)
theorem weak_cons {s t : S} {a b : List S} (h : s = t ∨ t = .un) (r : weak a b) : weak (s :: a) (t :: b) := fun i u e => by
  cases i with
  | zero =>
    simp at e
    rcases h with rfl | rfl
    · exact .inl (by simp [e])
    · exact .inr ⟨e.symm, s, rfl⟩
  | succ i =>
    simp at e
    rcases r i u e with q | ⟨q1, t, q2⟩
    · exact .inl (by simpa using q)
    · exact .inr ⟨q1, t, by simpa using q2⟩
theorem WK.weak : ∀ {a b : List S}, WK a b → Far.weak a b
  | _, _, .nil => weak_refl
  | _, _, .same r => weak_cons (.inl rfl) (WK.weak r)
  | _, _, .un r => weak_cons (.inr rfl) (WK.weak r)
variable {E : WX} {N B C : List S → Prop} {R : S → Prop} {X : List S → Addr → List (Str × D) → Prop} {tb : TS}
theorem rg0 (n : Nat) : rg 0 n = (List.range n).map fun (i : Nat) => D.int (i : Int) := by
  unfold rg; congr 1; funext i; rw [Int.zero_add]
theorem range_get {n i y : Nat} (h : (List.range n)[i]? = some y) : i < n ∧ y = i := by
  obtain ⟨q, e⟩ := List.getElem?_eq_some_iff.mp h
  simp at q e; exact ⟨q, e.symm⟩
/-- for k in range(n) -/
theorem sd_rng1 {n : Int} {tr : TA} (he : EA K tr δ [.int n]) (h1 : -(2 ^ 62) ≤ n) (h2 : n < 2 ^ 62) (I : Nat → List S) (h0 : weak δ (I 0))
    (k : ∀ i : Nat, (i : Int) < n → ∃ δ2, ET K g (I i) (.int (i : Int)) δ2 ∧ SD K E tb δ2 (fun δ' => weak δ' (I (i + 1))) R N (fun δ' => weak δ' (I (i + 1))) X) (hd : N (I n.toNat)) : SD K E (tFor (iRngU1 tr) g tb) δ N R B C X := by
  refine sd_for (ys := List.range n.toNat) (h := fun (i : Nat) => D.int (i : Int)) (ei_is (ei_rngU1 he h1 h2) (rg0 _)) I h0 (fun i y hy => ?_) (by rw [List.length_range]; exact hd)
  obtain ⟨q, rfl⟩ := range_get hy
  exact k y (by omega)
/-- for k in range(m, n) -/
theorem sd_rng2 {m n : Int} {tr : TA} (he : EA K tr δ [.int m, .int n]) (h1 : -(2 ^ 62) ≤ m ∧ m < 2 ^ 62 ∧ -(2 ^ 62) ≤ n ∧ n < 2 ^ 62) (I : Nat → List S) (h0 : weak δ (I 0))
    (k : ∀ i : Nat, m + (i : Int) < n → ∃ δ2, ET K g (I i) (.int (m + (i : Int))) δ2 ∧ SD K E tb δ2 (fun δ' => weak δ' (I (i + 1))) R N (fun δ' => weak δ' (I (i + 1))) X) (hd : N (I (n - m).toNat)) : SD K E (tFor (iRngU2 tr) g tb) δ N R B C X := by
  refine sd_for (ys := List.range (n - m).toNat) (h := fun (i : Nat) => D.int (m + (i : Int))) (ei_rngU2 he h1) I h0 (fun i y hy => ?_) (by rw [List.length_range]; exact hd)
  obtain ⟨q, rfl⟩ := range_get hy
  exact k y (by omega)
/-- for x in xs -/
theorem sd_forD {ys : List D} (hi : EI K wi δ ys) (I : Nat → List S) (h0 : weak δ (I 0))
    (k : ∀ i y, ys[i]? = some y → ∃ δ2, ET K g (I i) y δ2 ∧ SD K E tb δ2 (fun δ' => weak δ' (I (i + 1))) R N (fun δ' => weak δ' (I (i + 1))) X) (hd : N (I ys.length)) : SD K E (tFor wi g tb) δ N R B C X :=
  sd_for (h := id) (ei_is hi (List.map_id _).symm) I h0 k hd
/-- [e for k in range(n)] -/
theorem ev_lcR1 {n : Int} {tr : TA} {f : Nat → D} (he : EA K tr δ [.int n]) (h1 : -(2 ^ 62) ≤ n) (h2 : n < 2 ^ 62) (hz : n.toNat ≤ sizeLine) (hg : GOk g vs) (k : ∀ i : Nat, (i : Int) < n → ∃ δ2, ET K g (hide δ vs) (.int (i : Int)) δ2 ∧ EV K te δ2 (.d (f i))) : EV K (tLc (iRngU1 tr) g tYes te vs) δ (.own ((List.range n.toNat).map f)) :=
  ev_lc1 (h := fun (i : Nat) => D.int (i : Int)) (ei_is (ei_rngU1 he h1 h2) (rg0 _)) hg (by rw [List.length_range]; exact hz) fun y hy => k y (by have := List.mem_range.mp hy; omega)
theorem ev_lcR2 {m n : Int} {tr : TA} {f : Nat → D} (he : EA K tr δ [.int m, .int n]) (h1 : -(2 ^ 62) ≤ m ∧ m < 2 ^ 62 ∧ -(2 ^ 62) ≤ n ∧ n < 2 ^ 62) (hz : (n - m).toNat ≤ sizeLine) (hg : GOk g vs) (k : ∀ i : Nat, m + (i : Int) < n → ∃ δ2, ET K g (hide δ vs) (.int (m + (i : Int))) δ2 ∧ EV K te δ2 (.d (f i))) : EV K (tLc (iRngU2 tr) g tYes te vs) δ (.own ((List.range (n - m).toNat).map f)) :=
  ev_lc1 (h := fun (i : Nat) => D.int (m + (i : Int))) (ei_rngU2 he h1) hg (by rw [List.length_range]; exact hz) fun y hy => k y (by have := List.mem_range.mp hy; omega)
theorem emod_in (c : Int) {m : Int} (h : 0 < m) : 0 ≤ c % m ∧ c % m < m := ⟨Int.emod_nonneg c (by omega), Int.emod_lt_of_pos c h⟩
theorem is_bl {a b : Bool} : RV2 K rIsB (.bl a) (.bl b) (.d (.bl (decide (a = b)))) := by
  intro He Ge H G σ δ v u ok rv ru Q q
  cases rv; cases ru
  exact ⟨a, b, rfl, rfl, q _ _ (done ok .bl)⟩
theorem not_bl {a b : Bool} : RV2 K rNotB (.bl a) (.bl b) (.d (.bl (!decide (a = b)))) := by
  intro He Ge H G σ δ v u ok rv ru Q q
  cases rv; cases ru
  exact ⟨a, b, rfl, rfl, q _ _ (done ok .bl)⟩
theorem op_isB1 {X : Cx} : OpR X (compareOp .Is) rIsB := op_is_bl
theorem op_notB1 {X : Cx} : OpR X (compareOp .IsNot) rNotB := op_isnot_bl
mutual
theorem eqv_self : ∀ {x : D}, pur x = true → PyData.eqv (pd x) (pd x) = true
  | .non, _ => by simp [pd, PyData.eqv]
  | .bl _, _ => by simp [pd, PyData.eqv]
  | .int _, _ => by simp [pd, PyData.eqv]
  | .str _, _ => by simp [pd, PyData.eqv]
  | .tup xs, h => by simp only [pd, PyData.eqv]; exact eqv_selfL (by simpa [pur] using h)
  | .lst xs, h => by simp only [pd, PyData.eqv]; exact eqv_selfL (by simpa [pur] using h)
  | .scr xs, h => by simp only [pd, PyData.eqv]; exact eqv_selfL (by simpa [pur] using h)
  | .ty _, h => by simp [pur] at h
  | .cls _, h => by simp [pur] at h
  | .ins _ _, h => by simp [pur] at h
  | .dK _, h => by simp [pur] at h
theorem eqv_selfL : ∀ {xs : List D}, purL xs = true → PyData.eqvAll (pdL xs) (pdL xs) = true
  | [], _ => by simp [pdL, PyData.eqvAll]
  | x :: xs, h => by
    simp only [purL, Bool.and_eq_true] at h
    simp only [pdL, PyData.eqvAll, Bool.and_eq_true]
    exact ⟨eqv_self h.1, eqv_selfL h.2⟩
end
theorem eqD_self {x : D} (h : pur x = true) : eqD x x = true := eqv_self h
end
end Far
/-! Exceptions kept behind their clause; calls that may let out; constructors; methods. -/
namespace Far
open PySem L2 PySem.Spec PyProof.Rows
/-- what 'except X as n: m = n' asks of an exception of the body (n in slot i, m in slot j): it is of that class; then it is kept -/
def wKeep (K : PySem.W.Frag) (c : Value) (i j : Nat) (D : Ends) : WX := fun cls d σ H =>
  PySem.W.exmOne K cls c = some true ∧ ∀ a, H a = none → D.nx (((σ.set i (some (.ref a))).set j (some (.ref a))).set i none) (upd H a (ExK cls d a))
def tTryK (K : PySem.W.Frag) (c : Value) (i j : Nat) (tb : WX → TS) : TS := fun D σ H => tb (wKeep K c i j D) D σ H
section
variable {X : Cx} {pins : List (Addr × Obj)} {σ : L2.St} {H : Hp} {s : Shared}
/-- an object that lies there already, of ours, is tracked from now on -/
theorem inv_track {a : Addr} {cls : Value} {d : Option Addr} {oe : Obj} {vs : Array Value} (I : Inv X pins σ H s) (hx : X.ex = []) (n0 : X.s_0.heap.get? a = none) (na : H a = none) (e : s.heap.get? a = some oe) (z : Zc cls d oe) (dd : oe.data = .fields vs)
    (nL : a ≠ X.env.locals) (nC : ∀ x c, X.env.cells.lookup x = some c → c ≠ a) (nP : ∀ p ∈ X.pn ++ pins, p.1 ≠ a) : Inv X pins σ (upd H a (ExK cls d a)) s := by
  have ne0 : ∀ b o, X.s_0.heap.get? b = some o → b ≠ a := fun b o q y => by rw [y, n0] at q; cases q
  have keepN : ∀ b, b ≠ a → H b = none → upd H a (ExK cls d a) b = none := fun b q n => by rw [upd_ne q]; exact n
  refine ⟨I.ok, I.os, I.bare, ⟨I.base.keep, I.base.slot, fun b o q n hq => keepN b (ne0 b o q) (I.base.free b o q n hq), I.base.there, fun b xs q => ?_, fun b o u q => ?_, fun b ps q => ?_⟩, I.loc, I.cell, keepN _ (Ne.symm nL) I.free, fun x c q => keepN c (nC x c q) (I.freeC x c q), fun p hp => ?_, fun b u q => ?_, I.len⟩
  · rw [upd_ne (ne_of_none (I.base.tups b xs q) na)]; exact I.base.tups b xs q
  · rw [upd_ne (ne_of_none (I.base.frzs b o u q) na)]; exact I.base.frzs b o u q
  · obtain ⟨m, q2⟩ := I.base.tbls b ps q
    exact ⟨m, by rw [upd_ne (ne_of_none q2 na)]; exact q2⟩
  · obtain ⟨e1, n, ne, nf, d1⟩ := I.pin p hp
    exact ⟨e1, keepN _ (nP p hp) n, ne, nf, d1⟩
  · by_cases hb : b = a
    · subst hb
      rw [upd_same] at q
      cases q
      exact ⟨⟨oe, vs, e, z, dd⟩, ⟨oe, e⟩, fun _ _ ⟨o, v, q1, r⟩ k => ⟨o, v, k o q1, r⟩⟩
    · rw [upd_ne hb] at q
      exact (I.hok b u q).stay (fun c v _ q => q) (fun c q => by rw [upd_ne (ne_of_none q na)]; exact q) fun c xs q => by rw [upd_ne (ne_of_none q na)]; exact q
end
section
variable {X : Cx} {x n m : Str} {c : Value} {i j : Nat} {body : List Stmt} {np np2 mp ap pos pos' : Pos} {tb : WX → TS}
theorem ps_try_keep (hs : X.stack = X.env :: X.outer) (hf : X.env.frame = some X.env.locals) (hex : X.ex = []) (hN : X.N.Nodup) (hi : X.N[i]? = some n) (hj : X.N[j]? = some m) (hln : X.env.kindOf n = some .local) (hlm : Loc X.env.scope m) (hc : Names X x c)
    (hb : ∀ (W : WX) (pn : List (Addr × Obj)) (xe : Value → Shared → Prop), Takes (X.tr pn xe) W → PassesOwn (model X.prog X.w) X.A X.env xe → PSs (X.tr pn xe) body (tb W))
    (hsu : ∀ (a : Addr) (oe : Obj) (pn : List (Addr × Obj)), PSs (X.suite a ((a, oe) :: pn)) [.Assign [.Name m mp] (.Name n np2) ap] (tAsg (tVar i) (gName j))) :
    PS X (.Try body [.ExceptHandler (some (.Name x np)) (some n) [.Assign [.Name m mp] (.Name n np2) ap] pos'] [] [] pos) (tTryK X.K c i j tb) := by
  refine ⟨fun pins s σ H D I h => ?_⟩
  have ok := I.ok
  have hfr : X.A.frames = some (X.env :: X.outer) := by rw [ok.frames, hs]
  have hloc : Loc X.env.scope n := .inl hln
  refine wpAny_Try_except ?_
  refine wpAny_mono ((hb (wKeep X.K c i j D) (X.pn ++ pins) (fun e s₁ => wpAny (model X.prog X.w) X.A (noteFrame e X.env) (fun _ s₂ => wpAny (model X.prog X.w) X.A (setFlight e none) (fun _ s₃ =>
    wpAny (model X.prog X.w) X.A (handleBy e X.env [.ExceptHandler (some (.Name x np)) (some n) [.Assign [.Name m mp] (.Name n np2) ap] pos']) (SP X pins D) X.xe s₃) X.xe s₂) X.xe s₁) (fun u s' xx => ?_) PassesOwn.looking).run [] s σ H D (I.toTry _) h) (fun f s1 hsp => ?_) (fun e s1 he => he)
  · obtain ⟨a, B, sI, pins', σ', H', cls, d, rfl, J', nb, up, sky, na, os, ag, hb1, hyes⟩ := xx
    have J : Inv X pins σ' H' sI := J'.ofTry ok
    have sky' : Sky B (X.env :: X.outer) a (Zc cls d) X.env.locals s'.heap := by rw [← hs]; exact sky
    show wpAny (model X.prog X.w) X.A (noteFrame (.ref a) X.env) _ _ _
    refine Sky.land Zc.steady hfr hf sky' fun h3 fl3 up3 => ?_
    have J3 : Inv X pins σ' H' { s' with heap := h3 } := J.landed nb fl3.1 (up.trans up3) os ag
    obtain ⟨oe3, vs3, he3, hz3, hd3⟩ := fl3.there
    have nfr : a ∉ frs (X.env :: X.outer) := fun hm => by
      obtain ⟨_, o', e', hnf⟩ := fl3.2.2.1.mem hm
      rw [he3] at e'; cases e'
      exact hnf _ hd3
    have nL : a ≠ X.env.locals := fun z => nfr (List.mem_filterMap.mpr ⟨X.env, List.mem_cons_self, by rw [hf, z]⟩)
    have nF : a ∉ X.fs := fun hm => by
      obtain ⟨e, he, q⟩ := List.mem_filterMap.mp hm
      exact nfr (List.mem_filterMap.mpr ⟨e, List.mem_cons_of_mem _ he, q⟩)
    have nI : sI.heap.get? a = none := by
      cases q : sI.heap.get? a with
      | none => rfl
      | some o =>
        have z := nb a o q (by rw [hs]; exact nfr)
        rw [fl3.2.1] at z; cases z
    have n0 : X.s_0.heap.get? a = none := by
      cases q : X.s_0.heap.get? a with
      | none => rfl
      | some o =>
        obtain ⟨o', z⟩ := J.base.there a o q (by rw [hex]; exact fun z => nomatch z)
        rw [nI] at z; cases z
    have nC : ∀ x c, X.env.cells.lookup x = some c → c ≠ a := fun x c e z => by
      obtain ⟨v, o, ho, _⟩ := J.cell x c e
      rw [z, nI] at ho; cases ho
    have nP : ∀ p ∈ X.pn ++ pins, p.1 ≠ a := fun p hp z => by
      obtain ⟨e, _⟩ := J.pin p hp
      rw [z, nI] at e; cases e
    have S3 := J3.suite he3 hd3 na nL nF
    refine wpAny_handleBy_cons (codeAny_handlers_test ?_) (by intro q; cases q)
    have LT : PySem.W.Looks (model X.prog X.w) h3 (typeOf (.ref a)) cls := fun A Q E s k q => wpAny_typeOf_ref (k _ _ he3) (by rw [hz3.1]; exact q)
    have LM := PySem.W.exm_one (M := model X.prog X.w) (J3.kIn) LT hb1
    have test : ∀ {Q : Value → Shared → Prop} {E : Value → Shared → Prop}, Q c { s' with heap := h3 } → wpAny (model X.prog X.w) (X.A.mark (some (.ref a))) (eval (.Name x np) X.env) Q E { s' with heap := h3 } := fun {Q E} q => by
      obtain ⟨hg, hdbg, hm | ⟨hm, hv, hnn⟩⟩ := hc
      · exact ld_glob (X := X.suite a ((a, oe3) :: (X.pn ++ pins))) S3 hg hm q hdbg
      · exact ld_blt (X := X.suite a ((a, oe3) :: (X.pn ++ pins))) S3 hg hm hv q hnn hdbg
    refine test (LM.here ?_)
    refine codeAny_handlers_suite_as ?_
    refine HandSPX.lands_againZ fl3 fun h4 fl4 up4 => ?_
    have J4 : Inv X pins σ' H' { s' with heap := h4 } := J.landed nb fl4.1 ((up.trans up3).trans up4) os ag
    obtain ⟨oe4, vs4, he4, hz4, hd4⟩ := fl4.there
    have S4 := J4.suite he4 hd4 na nL nF
    refine store_ok (X := X.suite a ((a, oe4) :: (X.pn ++ pins))) (v := .ref a) S4 hN hi hloc rfl (fun s5 S5 => ?_) (.inr hln)
    have hq := hyes a na
    have il : i < σ'.length := by rw [J.len]; exact (List.getElem?_eq_some_iff.mp hi).1
    have run := (hsu a oe4 (X.pn ++ pins)).run [] s5 (σ'.set i (some (.ref a))) H' { nx := fun σ' H1 => H1 = H' ∧ D.nx (σ'.set i none) (upd H' a (ExK cls d a)), rt := fun _ _ => False, bk := fun _ _ => False, ct := fun _ _ => False } S5
      ⟨.ref a, List.getElem?_set_self il, rfl, hq⟩
    refine wpAny_mono run (fun f s6 hsp => ?_) (fun _ _ z => False.elim z)
    cases f with
    | next =>
      obtain ⟨σ6, H6, S6, rfl, q6⟩ := hsp
      refine gone_ok (X := X.suite a ((a, oe4) :: (X.pn ++ pins))) S6 hN hi hln fun s7 S7 => ?_
      obtain ⟨e7, n7, _⟩ := S7.pin (a, oe4) (List.mem_append_left _ List.mem_cons_self)
      have J7 : Inv X pins (σ6.set i none) H6 s7 := S7.unsuite ok
      exact ⟨_, _, inv_track J7 hex n0 n7 e7 hz4 hd4 nL nC nP, q6⟩
    | brk => obtain ⟨_, _, _, z⟩ := hsp; exact z.elim
    | cont => obtain ⟨_, _, _, z⟩ := hsp; exact z.elim
    | ret u => obtain ⟨_, _, _, _, _, z⟩ := hsp; exact z.elim
  · cases f with
    | next =>
      obtain ⟨σ', H', J', q⟩ := hsp
      exact wpAny_execs_nil ⟨σ', H', J'.ofTry ok, q⟩
    | brk =>
      obtain ⟨σ', H', J', q⟩ := hsp
      exact ⟨σ', H', J'.ofTry ok, q⟩
    | cont =>
      obtain ⟨σ', H', J', q⟩ := hsp
      exact ⟨σ', H', J'.ofTry ok, q⟩
    | ret u =>
      obtain ⟨v, σ', H', J', r, q⟩ := hsp
      exact ⟨v, σ', H', J'.ofTry ok, r, q⟩
end
end Far
/-! Calls that may let out, told over data; constructors, methods, fields; raise, try; isinstance of all kinds. -/
namespace Far
open PySem L2 PySem.Spec PyProof.Rows
def tMakeS (C : Addr) (sp : Sp) (E : L2.St → XK) (t : TA) : TE := fun σ H Q => t σ H fun vs H1 => ∀ x dx, H1 x = none → H1 dx = none → dx ≠ x →
  sp (.ref x :: vs) (upd (upd H1 dx (.own x)) x (.ins C dx [])) (fun v H2 => v = .non ∧ Q (.ref x) H2) (E σ)
def tMethS (C : Addr) (m : Str) (sp : Sp) (E : L2.St → XK) (ta : TE) (t : TA) : TE := fun σ H Q => ta σ H fun x H1 => ∃ a dx fs, x = .ref a ∧ H1 a = some (.ins C dx fs) ∧ fs.lookup m = none ∧
  t σ H1 fun vs H2 => sp (x :: vs) H2 Q (E σ)
section
variable {X : Cx} {CX : CXT} {k : Nat} {f C : Addr} {fd : FuncData} {ps : List Str} {sp : Sp} {E : L2.St → XK} {x m : Str} {p pos apos : Pos} {e o : Expr} {es : List Expr} {ta : TE} {t : TA}
theorem passC {σ : L2.St} : PassesAt (L2.CX X.prog X.w) X σ E0 := fun pins H s e s' I c => passL pins σ H s e s' I c
theorem run_makeS {σ : L2.St} {pins : List (Addr × Obj)} {H : Hp} {s : Shared} {Q : VK} {us : List Value} {vs : List V} {E1 : XK} (M : Mk X.K C f) (F : FnOk X.prog X.w X.K X.mg X.base CX k f fd ps sp) (hr : Room (k + 1) X.A) (hb : Binds X.K fd ps [])
    (hx : PassesAt CX X σ E1) (I : Inv X pins σ H s) (r : Vals vs us)
    (h : ∀ x dx, H x = none → H dx = none → dx ≠ x → sp (.ref x :: vs) (upd (upd H dx (.own x)) x (.ins C dx [])) (fun v H2 => v = .non ∧ Q (.ref x) H2) E1) :
    wpAny (model X.prog X.w) X.A (call (.ref C) us) (EP X pins σ Q) X.xe s := by
  have hq := h (s.heap.objs.size + 1) s.heap.objs.size (I.hok.fresh (Nat.le_succ _)) (I.hok.fresh (Nat.le_refl _)) (Nat.ne_of_lt (Nat.lt_succ_self _))
  have I2 := Inv.made (C := C) I
  have r2 : Vals (V.ref (s.heap.objs.size + 1) :: vs) (Value.ref (s.heap.objs.size + 1) :: us) := .cons rfl r
  have hl : (Value.ref (s.heap.objs.size + 1) :: us).length = ps.length := by
    rw [← r2.length]; exact F.len _ _ _ _ hq
  have b := hb _ (Value.ref (s.heap.objs.size + 1) :: us) I2.kIn (by rw [List.append_nil]; exact hl)
  rw [List.append_nil] at b
  refine wpAny_call (make_map (f := f) I.kIn M.makes M.init (beq_iff_eq.mp M.fn) (codeAny_mono (F.run _ X.stack _ _ ⟨Value.ref (s.heap.objs.size + 1) :: us, []⟩ (Value.ref (s.heap.objs.size + 1) :: us) _ _ E1 (hr.make C us [])
    (I2.env0.make C us []) b r2 hq) fun r s' hq' => ?_))
  cases r with
  | error e => exact hx pins _ _ e s' I2 hq'
  | ok fl =>
    cases fl with
    | ret u =>
      obtain ⟨v, H', I3, rv, ev, q3⟩ := I2.after hq'
      subst ev
      exact ⟨rv, ⟨V.ref (s.heap.objs.size + 1), H', I3, rfl, q3⟩⟩
    | next => exact False.elim hq'
    | brk => exact False.elim hq'
    | cont => exact False.elim hq'
theorem pe_makeS (M : Mk X.K C f) (F : FnOk X.prog X.w X.K X.mg X.base CX k f fd ps sp) (hr : Room (k + 1) X.A) (hg : Gl X x) (hm : X.mg x = some (.ref C)) (hb : Binds X.K fd ps []) (hx : ∀ σ, PassesAt CX X σ (E σ))
    (ha : PA X (e :: es) t) (hdb : (x == ("__debug__" : Str)) = false := by decide) (he : starEach (e :: es) X.env = (false, eval e X.env) :: starEach es X.env := by rfl) (hpl : (backTo pos (starEach es X.env)).any (·.1) = false := by rfl) :
    PE X (.Call (.Name x p) (e :: es) [] pos) (tMakeS C sp E t) := by
  refine ⟨fun pins s σ H Q I h => ?_⟩
  refine wpAny_Call_Name_kw (ld_glob I hg hm ?_ hdb)
  refine PySem.W.callWith_K (h₀ := X.base) I.ok.mod.kin M.kp (thn (ha.run pos pins s σ H _ I h) fun us s1 ⟨vs, H1, I1, r, q⟩ => ⟨I1.kIn, ?_⟩) he hpl
  exact run_makeS M F hr hb (hx σ) I1 r q
theorem pe_methS {pl : Sem Bool} (he : PE X o ta) (c : Cls X.K C) (hm : Meth X.K C m f) (F : FnOk X.prog X.w X.K X.mg X.base CX k f fd ps sp) (hr : Room k X.A) (hb : Binds X.K fd ps []) (hx : ∀ σ, PassesAt CX X σ (E σ)) (ha : PA X (e :: es) t)
    (hst : starEach (e :: es) X.env = (false, eval e X.env) :: starEach es X.env := by rfl) (hpl : (backTo pos (starEach es X.env)).any (·.1) = false := by rfl)
    (ht : eval (.Call (.Attribute o m apos) (e :: es) [] pos) X.env = (do
      let ov ← eval o X.env
      standAt apos.atName
      let (f, first) ← holding [ov] (getMethod ov m pl)
      callWith pos f first (backTo pos (starEach (e :: es) X.env)) (backToKw pos (keywordEach [] X.env))) := by rfl) :
    PE X (.Call (.Attribute o m apos) (e :: es) [] pos) (tMethS C m sp E ta t) := by
  refine ⟨fun pins s σ H Q I h => ?_⟩
  refine PySem.W.methodCall_KW (pl := pl) (thn (he.run pins s σ H _ I h) fun u s1 ⟨x, H1, I1, rx, a, dx, fs, ex, ea, l, q⟩ => ?_) ht
  subst ex
  obtain rfl : u = Value.ref a := rx
  refine getmeth_ok I1 ea c hm l ?_
  refine PySem.W.callWith_K (first := [.ref a]) (h₀ := X.base) I.ok.mod.kin hm.kp (thn (ha.run pos pins s1 σ H1 _ I1 q) fun us s2 ⟨vs, H2, I2, r, q2⟩ => ⟨I2.kIn, ?_⟩) hst hpl
  exact run_fnS (us := .ref a :: us) (vs := .ref a :: vs) F hr hb (hx σ) I2 (.cons rfl r) q2
theorem pe_methS0 {pl : Sem Bool} (he : PE X o ta) (c : Cls X.K C) (hm : Meth X.K C m f) (F : FnOk X.prog X.w X.K X.mg X.base CX k f fd ps sp) (hr : Room k X.A) (hb : Binds X.K fd ps []) (hx : ∀ σ, PassesAt CX X σ (E σ))
    (ht : eval (.Call (.Attribute o m apos) [] [] pos) X.env = (do
      let ov ← eval o X.env
      standAt apos.atName
      let (f, first) ← holding [ov] (getMethod ov m pl)
      callWith pos f first (backTo pos (starEach [] X.env)) (backToKw pos (keywordEach [] X.env))) := by rfl) :
    PE X (.Call (.Attribute o m apos) [] [] pos) (tMethS C m sp E ta tNil) := by
  refine ⟨fun pins s σ H Q I h => ?_⟩
  refine PySem.W.methodCall_KW (pl := pl) (thn (he.run pins s σ H _ I h) fun u s1 ⟨x, H1, I1, rx, a, dx, fs, ex, ea, l, q⟩ => ?_) ht
  subst ex
  obtain rfl : u = Value.ref a := rx
  refine getmeth_ok I1 ea c hm l ?_
  exact PySem.W.callWith_K0 (first := [.ref a]) I1.kIn hm.kp (run_fnS (us := [.ref a]) (vs := [.ref a]) F hr hb (hx σ) I1 (.cons rfl .nil) q)
end
/-! ### the promise of an __init__ -/
/-- the heap without the new instance -/
def hid (H : Hp) (x dx : Addr) : Hp := fun b => if b = x ∨ b = dx then none else H b
theorem hid_ex {H : Hp} {x dx : Addr} : Ex (hid H x dx) H := fun a o e => by
  unfold hid at e
  split at e
  · cases e
  · exact e
theorem hid_new {H : Hp} {x dx : Addr} {o1 o2 : HO} (h1 : H x = none) (h2 : H dx = none) : hid (upd (upd H dx o1) x o2) x dx = H := by
  funext b
  unfold hid
  by_cases e : b = x ∨ b = dx
  · rw [if_pos e]; rcases e with rfl | rfl
    · exact h1.symm
    · exact h2.symm
  · rw [if_neg e]
    have e1 : b ≠ x := fun z => e (.inl z)
    have e2 : b ≠ dx := fun z => e (.inr z)
    rw [upd_ne e1, upd_ne e2]
def spI (K : PySem.W.Frag) (C : Addr) (R : List D → Out → Prop) : Sp := fun vs H Q E => ∃ G x dx us xs out, vs = .ref x :: us ∧ H x = some (.ins C dx []) ∧ H dx = some (.own x) ∧ dx ≠ x ∧ Ex G (hid H x dx) ∧ RpL K G xs us ∧ R xs out ∧
  (∀ fs G' H', out = .ret (.d (.ins C fs)) → Ex G G' → Ex G' H' → Ex (hid H x dx) H' → (∀ b, hid H x dx b ≠ none → G b = none → G' b = none) → Rp K G' (.ins C fs) (.ref x) → Q .non H') ∧
  (∀ c fs cls d G' H', out = .exc c fs → Ex G G' → Ex G' H' → Ex (hid H x dx) H' → (∀ b, hid H x dx b ≠ none → G b = none → G' b = none) → XOk K G' H' c fs cls d → E cls d H')
def SDefI (K : PySem.W.Frag) (E : WX) (x C : Addr) (t : TS) (δ : List S) (out : Out) : Prop := SD K E t δ (fun δ' => ∃ fs, δ'[0]? = some (.ob x C fs) ∧ out = .ret (.d (.ins C fs))) (fun _ => False) NoS NoS (fun _ c fs => out = .exc c fs)
def slotsI (n : Nat) (x C : Addr) (xs : List D) : List S := .ob x C [] :: slots (n - 1) xs
theorem ok_startH {K : PySem.W.Frag} {G He H : Hp} {n : Nat} {xs : List D} {vs : List V} (e : Ex G He) (eh : Ex He H) (r : RpL K G xs vs) : OKG K He G H G (vs.map some ++ List.replicate (n - vs.length) none) (slots n xs) := by
  refine ⟨.refl G, e.trans eh, eh, fun _ _ z => z, fun i s h => ?_, fun i j s t p hij hi hj o1 => ?_⟩
  · unfold slots at h
    rcases Nat.lt_or_ge i xs.length with q | q
    · rw [List.getElem?_append_left (by simpa using q), List.getElem?_map] at h
      obtain ⟨x, ex, rfl⟩ := Option.map_eq_some_iff.mp h
      obtain ⟨v, ev, rv⟩ := r.get ex
      refine ⟨some v, ?_, v, rfl, rv⟩
      rw [List.getElem?_append_left (by rw [List.length_map, ← r.length]; exact q), List.getElem?_map, ev]; rfl
    · rw [List.getElem?_append_right (by simpa using q)] at h
      have hs : s = .un := List.eq_of_mem_replicate (List.mem_of_getElem? h)
      have hl := (List.getElem?_eq_some_iff.mp h).1
      rw [List.length_replicate, List.length_map] at hl
      subst hs
      refine ⟨none, ?_, trivial⟩
      rw [List.getElem?_append_right (by rw [List.length_map, ← r.length]; exact q), List.getElem?_replicate, if_pos (by rw [List.length_map, ← r.length]; exact hl)]
  · have : ∀ s ∈ slots n xs, owned s = false := fun s hs => by
      rcases List.mem_append.mp hs with z | z
      · obtain ⟨x, _, rfl⟩ := List.mem_map.mp z; rfl
      · rw [List.eq_of_mem_replicate z]; rfl
    rw [this s (List.mem_of_getElem? hi)] at o1; cases o1
theorem init_run {K : PySem.W.Frag} {C : Addr} {R : List D → Out → Prop} {N : List Str} {vs : List V} {H : Hp} {Q : VK} {E : XK} {t : TS} (hN : 0 < N.length) (h : spI K C R vs H Q E) (k : ∀ x xs out, R xs out → SDefI K (fun cls d _ H => E cls d H) x C t (slotsI N.length x C xs) out) : t { nx := fun _ H' => Q .non H', rt := Q } (L2.start N vs) H := by
  obtain ⟨G, x, dx, us, xs, out, rfl, hx, hdx, ne, e, r, hr, q1, q2⟩ := h
  have est : L2.start N (.ref x :: us) = some (.ref x) :: (us.map some ++ List.replicate (N.length - 1 - us.length) none) := by
    unfold L2.start
    rw [List.map_cons, List.cons_append, List.length_cons, Nat.sub_add_eq, Nat.sub_right_comm]
  rw [est]
  have h0 := ok_startH (n := N.length - 1) e hid_ex r
  have hx0 : hid H x dx x = none := by unfold hid; simp
  have hd0 : hid H x dx dx = none := by unfold hid; simp
  have ok : OKG K (hid H x dx) G H G (some (.ref x) :: (us.map some ++ List.replicate (N.length - 1 - us.length) none)) (slotsI N.length x C xs) := by
    refine h0.push (s := .ob x C []) ⟨dx, [], rfl, hx0, e.none hx0, hd0, e.none hd0, hx, hdx, .nil⟩ fun _ j s p _ hj ho _ => ?_
    have : ∀ s ∈ slots (N.length - 1) xs, owned s = false := fun s hs => by
      rcases List.mem_append.mp hs with z | z
      · obtain ⟨x, _, rfl⟩ := List.mem_map.mp z; rfl
      · rw [List.eq_of_mem_replicate z]; rfl
    rw [this s (List.mem_of_getElem? hj)] at ho; cases ho
  refine k x xs out hr (hid H x dx) G H _ _ ⟨G, ok⟩ (fun δ' σ' H' ⟨G', ok'⟩ ⟨fs, e0, eo⟩ => ?_) (fun _ _ _ _ _ _ z => z.elim) (fun _ _ _ _ z => z.elim) (fun _ _ _ _ z => z.elim) fun c fs cls d G' σ' δ' H' ok x z => q2 c fs cls d G' H' z ok.ge ok.gh ok.he ok.nc x
  obtain ⟨o, _, dx', gs, rfl, h1, h2, h3, h4, h5, h6, rf⟩ := ok'.sl 0 _ e0
  have ne2 : dx' ≠ x := fun z => by rw [z, h5] at h6; cases h6
  have g1 : Ex G' (upd (upd G' x (.ins C dx' gs)) dx' (.own x)) := (Ex.new h2).trans (.new (by rw [upd_ne ne2]; exact h4))
  refine q1 fs _ H' eo (ok'.ge.trans g1) (fun b u q => ?_) ok'.he (fun b b1 b2 => ?_) (.ins (by rw [upd_ne (Ne.symm ne2), upd_same]) (rf.mono g1))
  · by_cases z : b = dx'
    · subst z; rw [upd_same] at q; cases q; exact h6
    · rw [upd_ne z] at q
      by_cases z2 : b = x
      · subst z2; rw [upd_same] at q; cases q; exact h5
      · rw [upd_ne z2] at q; exact ok'.gh b u q
  · have z1 : b ≠ dx' := fun z => b1 (by rw [z]; exact h3)
    have z2 : b ≠ x := fun z => b1 (by rw [z]; exact h1)
    rw [upd_ne z1, upd_ne z2]; exact ok'.nc b b1 b2
section
variable {K : PySem.W.Frag} {δ : List S} {te ta tb : TE} {tr : TA} {x y z : D} {s : S} {xs : List D} {fs : List (Str × D)} {C : Addr} {R : List D → Out → Prop} {E : L2.St → XK} {c : Addr} {cf : List (Str × D)}
/-! ### expressions that let out -/
/-- te lets out an exception of the class at c with the fields cf -/
def EX (K : PySem.W.Frag) (E : L2.St → XK) (te : TE) (δ : List S) (c : Addr) (cf : List (Str × D)) : Prop := ∀ (He Ge H : Hp) (τo : L2.St) (τs : List S) (σ : L2.St), τo.length = τs.length → OK K He Ge H (τo ++ σ) (τs ++ δ) →
  (∀ cls d G' H', OKG K He Ge H' G' (τo ++ σ) (τs ++ δ) → XOk K G' H' c cf cls d → E σ cls d H') → ∀ Q : VK, te σ H Q
def EXA (K : PySem.W.Frag) (E : L2.St → XK) (ta : TA) (δ : List S) (c : Addr) (cf : List (Str × D)) : Prop := ∀ (He Ge H : Hp) (τo : L2.St) (τs : List S) (σ : L2.St), τo.length = τs.length → OK K He Ge H (τo ++ σ) (τs ++ δ) →
  (∀ cls d G' H', OKG K He Ge H' G' (τo ++ σ) (τs ++ δ) → XOk K G' H' c cf cls d → E σ cls d H') → ∀ Q : List V → Hp → Prop, ta σ H Q
theorem sp_ret {He Ge H G : Hp} {σ : L2.St} {δ : List S} {vs : List V} {E : XK} (ok1 : OKG K He Ge H G σ δ) (r1 : RpL K G xs vs) (hr : R xs (.ret s)) {Q : VK} (q : ∀ v H', OK K He Ge H' (some v :: σ) (s :: δ) → Q v H') : spD K R vs H Q E := by
  refine ⟨G, xs, .ret s, ok1.gh, r1, hr, fun v s' G' H' e g1 g2 g3 nc k => ?_, fun c fs cls d G' H' e => (nomatch e)⟩
  cases e
  refine q v H' ⟨G', (ok1.grow g3 g1 g2 nc).push ?_ fun ho j t p e hj hoj eσ => ?_⟩
  · cases s with
    | un => trivial
    | d x => exact k
    | own ys => obtain ⟨p, us, e, h1, h2, h3, r⟩ := k; exact ⟨p, us, e, ok1.he.none h1, h2, h3, r⟩
    | ob a C fs => obtain ⟨dx, gs, e, h1, h2, h3, h4, h5, h6, r⟩ := k; exact ⟨dx, gs, e, ok1.he.none h1, h2, ok1.he.none h3, h4, h5, h6, r⟩
  · cases e
    have hn : H p = none := by
      cases s with
      | un => cases ho
      | d x => cases ho
      | own ys => obtain ⟨p', us, e, h1, _⟩ := k; cases e; exact h1
      | ob a C fs => obtain ⟨dx, gs, e, h1, _⟩ := k; cases e; exact h1
    obtain ⟨o, eo, k2⟩ := ok1.sl j t hj
    rw [eo] at eσ
    cases eσ
    cases t with
    | un => cases hoj
    | d x => cases hoj
    | own ys => obtain ⟨p', vs', e, _, _, h3, _⟩ := k2; cases e; rw [hn] at h3; cases h3
    | ob a C fs => obtain ⟨dx, gs, e, _, _, _, _, h5, _⟩ := k2; cases e; rw [hn] at h5; cases h5
theorem ev_callS (h : EA K tr δ xs) (hr : R xs (.ret s)) : EV K (tCallS (spD K R) E tr) δ s := by
  intro He Ge H τo τs σ hl ok Q q
  have z := ev_call (E := E σ) h hr He Ge H τo τs σ hl ok Q q
  unfold tCall at z
  simp only [List.append_nil] at z
  exact z
theorem ex_callS (h : EA K tr δ xs) (hr : R xs (.exc c cf)) : EX K E (tCallS (spD K R) E tr) δ c cf := by
  intro He Ge H τo τs σ hl ok k Q
  refine h He Ge H τo τs σ hl ok _ fun vs H1 G ok1 r1 => ?_
  exact ⟨G, xs, .exc c cf, ok1.gh, r1, hr, fun v s' G' H' e => (nomatch e), fun c' fs cls d G' H' e g1 g2 g3 nc k2 => by
    cases e
    exact k cls d G' H' (ok1.grow g3 g1 g2 nc) k2⟩
theorem ex_callA (h : EXA K E tr δ c cf) : EX K E (tCallS (spD K R) E tr) δ c cf := fun He Ge H τo τs σ hl ok k Q => h He Ge H τo τs σ hl ok k _
theorem exa_head (h : EX K E te δ c cf) : EXA K E (tCons te tr) δ c cf := fun He Ge H τo τs σ hl ok k Q => h He Ge H τo τs σ hl ok k _
theorem exa_tail (h1 : EV K te δ (.d x)) (h : EXA K E tr δ c cf) : EXA K E (tCons te tr) δ c cf := fun He Ge H τo τs σ hl ok k Q =>
  h1 He Ge H τo τs σ hl ok _ fun v H1 ok1 => h He Ge H1 (some v :: τo) (.d x :: τs) σ (by simp [hl]) ok1 (fun cls d G' H' ok' x => k cls d G' H' ok'.pop x) _
theorem ex_op1 {r : R2} (h : EX K E ta δ c cf) : EX K E (tOp r ta tb) δ c cf := fun He Ge H τo τs σ hl ok k Q => h He Ge H τo τs σ hl ok k _
theorem ex_op2 {r : R2} (h1 : EV K ta δ (.d x)) (h : EX K E tb δ c cf) : EX K E (tOp r ta tb) δ c cf := fun He Ge H τo τs σ hl ok k Q =>
  h1 He Ge H τo τs σ hl ok _ fun v H1 ok1 => h He Ge H1 (some v :: τo) (.d x :: τs) σ (by simp [hl]) ok1 (fun cls d G' H' ok' x => k cls d G' H' ok'.pop x) _
/-! ### constructors, methods, fields -/
theorem ev_makeS (h : EA K tr δ xs) (hr : R xs (.ret (.d (.ins C fs)))) : EV K (tMakeS C (spI K C R) E tr) δ (.d (.ins C fs)) := by
  intro He Ge H τo τs σ hl ok Q q
  refine h He Ge H τo τs σ hl ok _ fun vs H1 G ok1 r1 => ?_
  intro x dx hx hdx ne
  have hh := hid_new (o1 := .own x) (o2 := .ins C dx []) hx hdx
  refine ⟨G, x, dx, vs, xs, _, rfl, upd_same, by rw [upd_ne ne, upd_same], ne, by rw [hh]; exact ok1.gh, r1, hr, fun fs' G' H' e g1 g2 g3 nc k => ?_, fun c fs cls d G' H' e => (nomatch e)⟩
  cases e
  rw [hh] at g3 nc
  exact ⟨rfl, q _ H' ⟨G', (ok1.grow g3 g1 g2 nc).pushD k⟩⟩
theorem ex_makeS (h : EA K tr δ xs) (hr : R xs (.exc c cf)) : EX K E (tMakeS C (spI K C R) E tr) δ c cf := by
  intro He Ge H τo τs σ hl ok k Q
  refine h He Ge H τo τs σ hl ok _ fun vs H1 G ok1 r1 => ?_
  intro x dx hx hdx ne
  have hh := hid_new (o1 := .own x) (o2 := .ins C dx []) hx hdx
  refine ⟨G, x, dx, vs, xs, _, rfl, upd_same, by rw [upd_ne ne, upd_same], ne, by rw [hh]; exact ok1.gh, r1, hr, fun fs' G' H' e => (nomatch e), fun c' fs cls d G' H' e g1 g2 g3 nc k2 => ?_⟩
  cases e
  rw [hh] at g3 nc
  exact k cls d G' H' (ok1.grow g3 g1 g2 nc) k2
theorem ex_makeA (h : EXA K E tr δ c cf) : EX K E (tMakeS C (spI K C R) E tr) δ c cf := fun He Ge H τo τs σ hl ok k Q => h He Ge H τo τs σ hl ok k _
theorem ev_methS {m : Str} (h0 : EV K ta δ (.d (.ins C fs))) (hm : fs.lookup m = none) (h : EA K tr δ xs) (hr : R (.ins C fs :: xs) (.ret s)) : EV K (tMethS C m (spD K R) E ta tr) δ s := by
  intro He Ge H τo τs σ hl ok Q q
  refine h0 He Ge H τo τs σ hl ok _ fun v H1 ok1 => ?_
  obtain ⟨G1, ok1⟩ := ok1
  obtain ⟨_, e1, r1⟩ := ok1.top
  cases e1
  cases r1 with
  | ins hp rf =>
    refine ⟨_, _, _, rfl, ok1.gh _ _ hp, rf.nolook hm, ?_⟩
    refine h He Ge H1 (some _ :: τo) (.d (.ins C fs) :: τs) σ (by simp [hl]) ⟨G1, ok1⟩ _ fun vs H2 G2 ok2 r2 => ?_
    obtain ⟨_, e2, r3⟩ := ok2.top
    cases e2
    exact sp_ret ok2.pop (.cons r3 r2) hr q
theorem ex_methS {m : Str} (h0 : EV K ta δ (.d (.ins C fs))) (hm : fs.lookup m = none) (h : EA K tr δ xs) (hr : R (.ins C fs :: xs) (.exc c cf)) : EX K E (tMethS C m (spD K R) E ta tr) δ c cf := by
  intro He Ge H τo τs σ hl ok k Q
  refine h0 He Ge H τo τs σ hl ok _ fun v H1 ok1 => ?_
  obtain ⟨G1, ok1⟩ := ok1
  obtain ⟨_, e1, r1⟩ := ok1.top
  cases e1
  cases r1 with
  | ins hp rf =>
    refine ⟨_, _, _, rfl, ok1.gh _ _ hp, rf.nolook hm, ?_⟩
    refine h He Ge H1 (some _ :: τo) (.d (.ins C fs) :: τs) σ (by simp [hl]) ⟨G1, ok1⟩ _ fun vs H2 G2 ok2 r2 => ?_
    obtain ⟨_, e2, r3⟩ := ok2.top
    cases e2
    exact ⟨G2, _, .exc c cf, ok2.gh, .cons r3 r2, hr, fun v s' G' H' e => (nomatch e), fun c' fs cls d G' H' e g1 g2 g3 nc k2 => by
      cases e
      exact k cls d G' H' (ok2.pop.grow g3 g1 g2 nc) k2⟩
theorem ev_fld {f : Str} (h : EV K ta δ (.d (.ins C fs))) (c : Cls K C) (n : NoAttr K C f) (l : fs.lookup f = some x) : EV K (tFld K ta f) δ (.d x) := by
  intro He Ge H τo τs σ hl ok Q q
  refine h He Ge H τo τs σ hl ok _ fun v H1 ⟨G1, ok1⟩ => ?_
  obtain ⟨_, e1, r1⟩ := ok1.top
  cases e1
  cases r1 with
  | ins hp rf =>
    obtain ⟨u, l2, r2⟩ := rf.lookup l
    exact ⟨_, _, _, _, _, rfl, ok1.gh _ _ hp, c, n, l2, q _ _ ⟨G1, ok1.pop.pushD r2⟩⟩
/-! ### statements -/
variable {W : WX} {N B Ct : List S → Prop} {Rt : S → Prop} {Xc : List S → Addr → List (Str × D) → Prop} {t u : TS}
def tRaise (C : Addr) (W : WX) : TS := fun _ σ H => W (.ref C) none σ H
theorem sd_raise (h : Xc δ C []) : SD K W (tRaise C W) δ N Rt B Ct Xc := fun He Ge H σ Dn ⟨G, ok⟩ nx rt bk ct xx => xx C [] (.ref C) none G σ δ H ok ⟨rfl, .inl ⟨rfl, rfl⟩⟩ h
theorem ex0 (h : EX K (WE W) te δ c cf) {He Ge H : Hp} {σ : L2.St} (ok : OK K He Ge H σ δ) (k : ∀ cls d G' H', OKG K He Ge H' G' σ δ → XOk K G' H' c cf cls d → W cls d σ H') (Q : VK) : te σ H Q := h He Ge H [] [] σ rfl ok k Q
theorem sd_asgX {g : TG} (h : EX K (WE W) te δ c cf) (hx : Xc δ c cf) : SD K W (tAsg te g) δ N Rt B Ct Xc := fun He Ge H σ Dn ok nx rt bk ct xx => ex0 h ok (fun cls d G' H' ok' x => xx c cf cls d G' σ δ H' ok' x hx) _
theorem sd_dropX (h : EX K (WE W) te δ c cf) (hx : Xc δ c cf) : SD K W (tDrop te) δ N Rt B Ct Xc := fun He Ge H σ Dn ok nx rt bk ct xx => ex0 h ok (fun cls d G' H' ok' x => xx c cf cls d G' σ δ H' ok' x hx) _
theorem sd_retX (h : EX K (WE W) te δ c cf) (hx : Xc δ c cf) : SD K W (tRet te) δ N Rt B Ct Xc := fun He Ge H σ Dn ok nx rt bk ct xx => ex0 h ok (fun cls d G' H' ok' x => xx c cf cls d G' σ δ H' ok' x hx) _
theorem sd_try {cv : Value} {i j : Nat} {tb : WX → TS} {X1 : List S → Addr → List (Str × D) → Prop} (hb : ∀ W, SD K W (tb W) δ N Rt B Ct X1)
    (hx : ∀ δ' c fs, X1 δ' c fs → i < δ'.length ∧ j < δ'.length ∧ PySem.W.exmOne K (.ref c) cv = some true ∧ N (((δ'.set i .un).set j (.d (.exc c fs))).set i .un)) : SD K W (tTryK K cv i j tb) δ N Rt B Ct Xc := by
  intro He Ge H σ Dn ok nx rt bk ct xx
  refine hb (wKeep K cv i j Dn) He Ge H σ Dn ok nx rt bk ct fun c fs cls d G' σ' δ' H' ok' xo h1 => ?_
  obtain ⟨k1, k2, k3, k4⟩ := hx δ' c fs h1
  obtain ⟨rfl, hd⟩ := xo
  refine ⟨k3, fun a na => ?_⟩
  have ok2 := ok'.newG (u := ExK (.ref c) d a) na
  have ga : G' a = none := ok'.gh.none na
  have r : Rp K (upd G' a (ExK (.ref c) d a)) (.exc c fs) (.ref a) := by
    rcases hd with ⟨rfl, rfl⟩ | ⟨dd, gs, rfl, e, r, nn⟩
    · exact .exc0 upd_same
    · exact .exc1 upd_same (by rw [upd_ne (ne_of_none e ga)]; exact e) (r.mono (.new ga)) nn
  have ok3 := (ok2.push (s := .un) (o := some (.ref a)) trivial fun z => nomatch z).store k1
  have ok4 := (ok3.pushD r).store (i := j) (by rw [List.length_set]; exact k2)
  have ok5 := (ok4.push (s := .un) (o := none) trivial fun z => nomatch z).store (i := i) (by simp only [List.length_set]; exact k1)
  exact nx _ _ _ ⟨_, ok5⟩ k4
theorem OKG.changeOb {He Ge H G : Hp} {σ : L2.St} {i : Nat} {a dx : Addr} {gs gs2 : List (Str × V)} {fs2 : List (Str × D)} (h : OKG K He Ge H G σ δ) (hi : δ[i]? = some (.ob a C fs)) (hl : H a = some (.ins C dx gs)) (r : RpF K G fs2 gs2) : OKG K He Ge (upd H a (.ins C dx gs2)) G σ (δ.set i (.ob a C fs2)) := by
  obtain ⟨o, e, dx1, gs', rfl, h1, h2, h3, h4, h5, h6, r'⟩ := h.sl i _ hi
  rw [h5] at hl
  cases hl
  have hlt : i < δ.length := (List.getElem?_eq_some_iff.mp hi).1
  have nd : dx ≠ a := fun z => by rw [z, h5] at h6; cases h6
  refine ⟨h.ge, fun b o q => ?_, fun b o q => ?_, h.nc, fun j t q => ?_, fun j k s' t p' hjk hj hk o1 o2 e1 e2 => ?_⟩
  · rw [upd_ne (ne_of_none q h2)]; exact h.gh b o q
  · rw [upd_ne (ne_of_none q h1)]; exact h.he b o q
  · by_cases z : i = j
    · subst z
      rw [List.getElem?_set_self hlt] at q; cases q
      exact ⟨_, e, dx, gs2, rfl, h1, h2, h3, h4, upd_same, by rw [upd_ne nd]; exact h6, r⟩
    · rw [List.getElem?_set_ne z] at q
      obtain ⟨o, eo, k⟩ := h.sl j t q
      refine ⟨o, eo, ?_⟩
      cases t with
      | un => trivial
      | d x => exact k
      | own zs =>
        obtain ⟨p2, vs2, rfl, k1, k2, k3, r2⟩ := k
        have ne : p2 ≠ a := fun y => by rw [y, h5] at k3; cases k3
        exact ⟨p2, vs2, rfl, k1, k2, by rw [upd_ne ne]; exact k3, r2⟩
      | ob a2 C2 fs3 =>
        obtain ⟨dx2, gs3, rfl, k1, k2, k3, k4, k5, k6, r2⟩ := k
        have n1 : a2 ≠ a := fun y => h.ne i j _ _ a z hi q rfl rfl e (by rw [← y]; exact eo)
        have n2 : dx2 ≠ a := fun y => by rw [y, h5] at k6; cases k6
        exact ⟨dx2, gs3, rfl, k1, k2, k3, k4, by rw [upd_ne n1]; exact k5, by rw [upd_ne n2]; exact k6, r2⟩
  · have un : ∀ (m : Nat) (s : S), (δ.set i (.ob a C fs2))[m]? = some s → owned s = true → ∃ s2, δ[m]? = some s2 ∧ owned s2 = true := fun m s q q2 => by
      by_cases z : i = m
      · subst z; exact ⟨_, hi, rfl⟩
      · rw [List.getElem?_set_ne z] at q; exact ⟨s, q, q2⟩
    obtain ⟨s2, q1, q2⟩ := un j _ hj o1
    obtain ⟨t2, q3, q4⟩ := un k _ hk o2
    exact h.ne j k s2 t2 p' hjk q1 q3 q2 q4 e1 e2
theorem sd_fld {i : Nat} {a : Addr} {f : Str} (hi : δ[i]? = some (.ob a C fs)) (h : EV K te δ (.d x)) (c : Cls K C) (n : NoAttr K C f) (hl : fs.length < 1000) (nx : N (δ.set i (.ob a C (putD f x fs)))) : SD K W (sFld K (tVar i) te f) δ N Rt B Ct Xc := by
  intro He Ge H σ Dn ok n1 rt bk ct xx
  refine ev0 h ok fun v H' ⟨G', ok'⟩ => ?_
  obtain ⟨o, eo, dx, gs, rfl, k1, k2, k3, k4, k5, k6, rf⟩ := ok'.pop.sl i _ hi
  obtain ⟨w, e4, rw_⟩ := ok'.top
  cases e4
  exact ⟨_, eo, a, C, dx, gs, rfl, k5, c, n, by rw [← rf.length]; exact hl, n1 _ _ _ ⟨G', ok'.pop.changeOb hi k5 (rf.put rw_)⟩ nx⟩
end
/-! ### isinstance -/
def rIsX (K : PySem.W.Frag) : List V → Hp → VK → Prop := fun xs H Q => ∃ (a D : Addr) (c : V) (cv : Value) (b : Bool), xs = [.ref a, c] ∧ (H a = some (ExK (.ref D) none a) ∨ H a = some (ExO (.ref D) a)) ∧ ExcC K D ∧ ClsV c cv ∧ PySem.W.kitOne K (.ref D) cv = some b ∧ Q (.bl b) H
def rIsXT (K : PySem.W.Frag) : List V → Hp → VK → Prop := fun xs H Q => ∃ (a D tp : Addr) (cs : List V) (us : List Value) (b : Bool), xs = [.ref a, .ref tp] ∧ (H a = some (ExK (.ref D) none a) ∨ H a = some (ExO (.ref D) a)) ∧ ExcC K D ∧ SqT K H tp cs ∧ Paired ClsV cs us ∧ PySem.W.kitAny K (.ref D) us = some b ∧ Q (.bl b) H
def rIsTS (K : PySem.W.Frag) : List V → Hp → VK → Prop := fun xs H Q => ∃ (x : V) (tp : Addr) (cs : List V) (t : Value) (us : List Value) (b : Bool), xs = [x, .ref tp] ∧ SqT K H tp cs ∧ Paired ClsV cs us ∧ TyX K H x t ∧ PySem.W.kitAny K t us = some b ∧ Q (.bl b) H
def rIsU (K : PySem.W.Frag) : List V → Hp → VK → Prop := fun xs H Q => rIsi K xs H Q ∨ rIsX K xs H Q ∨ rIsTS K xs H Q ∨ rIsXT K xs H Q
section
variable {X : Cx}
theorem exc_at {pins : List (Addr × Obj)} {σ : L2.St} {H : Hp} {s : Shared} {a D : Addr} (I : Inv X pins σ H s) (h : H a = some (ExK (.ref D) none a) ∨ H a = some (ExO (.ref D) a)) : ∃ oe, PySem.W.InstAt s.heap a oe D none := by
  have z : ∃ (oe : Obj) (vs : Array Value), s.heap.get? a = some oe ∧ Zc (.ref D) none oe ∧ oe.data = .fields vs := by
    rcases h with h | h
    · obtain ⟨z, _⟩ := I.hok a _ h; exact z
    · obtain ⟨⟨oe, vs, e, z, d, _⟩, _⟩ := I.hok a _ h; exact ⟨oe, vs, e, z, d⟩
  obtain ⟨oe, vs, e, z, d⟩ := z
  refine ⟨oe, ?_⟩
  obtain ⟨oc, od, oda, osl⟩ := oe
  obtain ⟨h1, h2⟩ := z
  dsimp only at h1 h2 d
  subst h1 h2 d
  exact ⟨e, rfl, rfl, trivial⟩
theorem call_isU : CallR X (.builtin "isinstance") (rIsU X.K) := by
  intro pins s σ H xs us Q I r h
  rcases h with h | h | h | h
  · exact call_isi pins s σ H xs us Q I r h
  · obtain ⟨a, D, c, cv, b, rfl, ha, C, k, e, q⟩ := h
    obtain ⟨u1, u2, rfl, r1, r2⟩ := vals2 r
    have e2 := k.eq r2
    subst e2
    cases (show u1 = Value.ref a from r1)
    obtain ⟨oe, J⟩ := exc_at I ha
    exact PySem.W.kia_one (PySem.W.handS_kitx_exc C.hg C.hk C.hs C.hd C.ha C.hn C.ht C.hm) I.kIn J e (fun z => nomatch z) fun tk => ⟨.bl b, H, I.tok tk, rfl, q⟩
  · obtain ⟨x, tp, cs, t, ws, b, rfl, hT, k, ty, e, q⟩ := h
    obtain ⟨u1, u2, rfl, r1, r2⟩ := vals2 r
    cases (show u2 = Value.ref tp from r2)
    obtain ⟨P, Z, p, hx⟩ := kit_of I r1 ty
    obtain ⟨its, rv, ⟨o, h1, h2, n, h3⟩, _⟩ := I.tuple hT
    have e3 := ClsV.all k rv
    subst e3
    obtain ⟨oc, od, dt, sl⟩ := o
    simp only at h2 h3
    subst h2 h3
    exact PySem.W.kia_tup Z I.kIn p h1 e hx fun tk => ⟨.bl b, H, I.tok tk, rfl, q⟩
  · obtain ⟨a, D, tp, cs, ws, b, rfl, ha, C, hT, k, e, q⟩ := h
    obtain ⟨u1, u2, rfl, r1, r2⟩ := vals2 r
    cases (show u2 = Value.ref tp from r2)
    cases (show u1 = Value.ref a from r1)
    obtain ⟨oe, J⟩ := exc_at I ha
    obtain ⟨its, rv, ⟨o, h1, h2, n, h3⟩, _⟩ := I.tuple hT
    have e3 := ClsV.all k rv
    subst e3
    obtain ⟨oc, od, dt, sl⟩ := o
    simp only at h2 h3
    subst h2 h3
    exact PySem.W.kia_tup (PySem.W.handS_kitx_exc C.hg C.hk C.hs C.hd C.ha C.hn C.ht C.hm) I.kIn J h1 e (fun z => nomatch z) fun tk => ⟨.bl b, H, I.tok tk, rfl, q⟩
end
/-- a class of the text, as isinstance asks its instances -/
structure InsC (K : PySem.W.Frag) (C : Addr) : Prop where
  cl : Cls K C
  ha : PySem.W.findIn K (.ref C) "__class__" = some (some (.builtin "object.__class__"))
  hn : PySem.W.specialIn K (.builtin "object.__class__") "__get__" = some (some (.builtin "getset_descriptor.__get__"))
  ht : PySem.W.takesIn K (.builtin "object.__class__") = some true
  hm : PySem.W.mroIn K C (.type "object") = some true
/-- the class that a datum is -/
def clsD : D → Option Value
  | .ty n => some (.type n) | .cls a => some (.ref a) | _ => none
section
variable {K : PySem.W.Frag} {x c : D} {b : Bool} {cv : Value}
theorem clsV_of {G : Hp} {v : V} (h : clsD c = some cv) (r : Rp K G c v) : ClsV v cv := by
  cases r <;> simp [clsD] at h
  · subst h; exact .ty _
  · subst h; exact .own _
theorem clsV_all {G : Hp} : ∀ {cs : List D} {us : List Value} {vs : List V}, cs.mapM clsD = some us → RpL K G cs vs → Paired ClsV vs us
  | [], us, vs, h, r => by
    cases r
    simp at h
    subst h; exact .nil
  | c :: cs, us, vs, h, r => by
    cases r with
    | cons r0 r =>
      rw [List.mapM_cons] at h
      cases e : clsD c with
      | none => rw [e] at h; simp at h
      | some w =>
        rw [e] at h
        cases e2 : cs.mapM clsD with
        | none => rw [e2] at h; simp at h
        | some ws =>
          rw [e2] at h
          simp at h
          subst h
          exact .cons (clsV_of e r0) (clsV_all e2 r)
/-- what isinstance asks of a datum: its class -/
inductive Kin (K : PySem.W.Frag) : D → Value → Prop
  | ty {x : D} (h : known x = true) : Kin K x (.type (tyN x))
  | ins {C : Addr} {fs : List (Str × D)} (h : InsC K C) : Kin K (.ins C fs) (.ref C)
  | exc {C : Addr} (h : ExcC K C) : Kin K (.exc C []) (.ref C)
theorem is_any {t : Value} (hk : Kin K x t) (hc : clsD c = some cv) (h : PySem.W.kitOne K t cv = some b) : RVN K (rIsU K) [x, c] (.d (.bl b)) := by
  intro He Ge H G σ δ vs ok r Q q
  cases r with
  | cons r0 r2 =>
    cases r2 with
    | cons r1 r2 =>
      cases r2
      cases hk with
      | ty hk => exact .inl ⟨_, _, _, _, b, rfl, clsV_of hc r1, known_ty hk ok.gh r0, h, q _ _ (done ok .bl)⟩
      | ins hi =>
        cases r0 with
        | ins hp rf => exact .inl ⟨_, _, _, _, b, rfl, clsV_of hc r1, .base (.ins (ok.gh _ _ hp) hi.cl hi.ha hi.hn hi.ht hi.hm), h, q _ _ (done ok .bl)⟩
      | exc he =>
        cases r0 with
        | exc0 hp => exact .inr (.inl ⟨_, _, _, _, b, rfl, .inl (ok.gh _ _ hp), he, clsV_of hc r1, h, q _ _ (done ok .bl)⟩)
        | exo hp => exact .inr (.inl ⟨_, _, _, _, b, rfl, .inr (ok.gh _ _ hp), he, clsV_of hc r1, h, q _ _ (done ok .bl)⟩)
        | exc1 _ _ _ n => exact absurd rfl n
theorem is_anyT {t : Value} {cs : List D} {us : List Value} (hk : Kin K x t) (hc : cs.mapM clsD = some us) (h : PySem.W.kitAny K t us = some b) : RVN K (rIsU K) [x, .tup cs] (.d (.bl b)) := by
  intro He Ge H G σ δ vs ok r Q q
  cases r with
  | cons r0 r2 =>
    cases r2 with
    | cons r1 r2 =>
      cases r2
      cases r1 with
      | tup hT rT =>
        have hP := clsV_all hc rT
        have hT' := ok.gh.t hT
        cases hk with
        | ty hk => exact .inr (.inr (.inl ⟨_, _, _, _, _, b, rfl, hT', hP, known_ty hk ok.gh r0, h, q _ _ (done ok .bl)⟩))
        | ins hi =>
          cases r0 with
          | ins hp rf => exact .inr (.inr (.inl ⟨_, _, _, _, _, b, rfl, hT', hP, .base (.ins (ok.gh _ _ hp) hi.cl hi.ha hi.hn hi.ht hi.hm), h, q _ _ (done ok .bl)⟩))
        | exc he =>
          cases r0 with
          | exc0 hp => exact .inr (.inr (.inr ⟨_, _, _, _, _, b, rfl, .inl (ok.gh _ _ hp), he, hT', hP, h, q _ _ (done ok .bl)⟩))
          | exo hp => exact .inr (.inr (.inr ⟨_, _, _, _, _, b, rfl, .inr (ok.gh _ _ hp), he, hT', hP, h, q _ _ (done ok .bl)⟩))
          | exc1 _ _ _ n => exact absurd rfl n
theorem kitB_isTy {n : String} (h : (kitB (tyN x) n).isSome = true) : PySem.W.kitOne K (.type (tyN x)) (.type n) = some (isTy x n) := by
  refine kit_ty ?_
  unfold isTy
  cases e : kitB (tyN x) n with
  | none => rw [e] at h; cases h
  | some b => rfl
theorem isU_ty {n : String} (hk : known x = true) (h : (kitB (tyN x) n).isSome = true) : RVN K (rIsU K) [x, .ty n] (.d (.bl (isTy x n))) := is_any (.ty hk) rfl (kitB_isTy h)
theorem kitAny_tys : ∀ {ns : List String}, (∀ n ∈ ns, (kitB (tyN x) n).isSome = true) → PySem.W.kitAny K (.type (tyN x)) (ns.map .type) = some (ns.any (isTy x))
  | [], _ => rfl
  | n :: ns, h => by
    rw [List.map_cons, List.any_cons]
    refine kitAny_cons (kitB_isTy (h n List.mem_cons_self)) (fun e => ?_) fun e => by rw [e]; rfl
    rw [e, Bool.false_or]
    exact kitAny_tys fun n hn => h n (List.mem_cons_of_mem _ hn)
theorem isU_tys {ns : List String} {cs : List D} (e : cs = ns.map .ty) (hk : known x = true) (h : ∀ n ∈ ns, (kitB (tyN x) n).isSome = true) : RVN K (rIsU K) [x, .tup cs] (.d (.bl (ns.any (isTy x)))) := by
  subst e
  refine is_anyT (us := ns.map .type) (.ty hk) ?_ (kitAny_tys h)
  induction ns with
  | nil => rfl
  | cons n ns ih => rw [List.map_cons, List.mapM_cons, ih fun m hm => h m (List.mem_cons_of_mem _ hm)]; rfl
/-- an own class against an own class -/
theorem kit_own {C D : Addr} {b : Bool} (h1 : PySem.W.isClsIn K C = true) (h2 : PySem.W.typeIn K (.ref C) = some (.type "type")) (h3 : PySem.W.subIn K (.ref C) (.ref C) = some true) (h4 : PySem.W.subIn K (.ref D) (.ref C) = some b) : PySem.W.kitOne K (.ref D) (.ref C) = some b := by
  unfold PySem.W.kitOne
  by_cases e : D = C
  · subst e
    rw [h3] at h4
    rw [if_pos (by simp)]; exact h4
  · rw [if_neg (by simp [e])]
    have h1' : (PySem.W.clsIn K C).isSome = true := h1
    show (if ((PySem.W.clsIn K C).isSome && PySem.W.typeIn K (.ref C) == some (.type "type")) = true then PySem.W.subIn K (.ref D) (.ref C) else none) = some b
    rw [if_pos (by rw [h1', h2] <;> rfl)]
    exact h4
theorem kit_ownT {T : String} {t : Value} {b : Bool} (h1 : PySem.W.kitMeta T = true) (ht : (t == .type T) = false) (h4 : PySem.W.subIn K t (.type T) = some b) : PySem.W.kitOne K t (.type T) = some b := by
  unfold PySem.W.kitOne
  rw [if_neg (by rw [ht]; exact Bool.false_ne_true)]
  show (if PySem.W.kitMeta T = true then PySem.W.subIn K t (.type T) else none) = some b
  rw [if_pos h1]; exact h4
/-- a built-in kind against an own class -/
theorem kit_tyOwn {C : Addr} {n : String} {b : Bool} (h1 : PySem.W.isClsIn K C = true) (h2 : PySem.W.typeIn K (.ref C) = some (.type "type")) (h4 : PySem.W.subIn K (.type n) (.ref C) = some b) : PySem.W.kitOne K (.type n) (.ref C) = some b := by
  unfold PySem.W.kitOne
  rw [if_neg (by simp)]
  have h1' : (PySem.W.clsIn K C).isSome = true := h1
  show (if ((PySem.W.clsIn K C).isSome && PySem.W.typeIn K (.ref C) == some (.type "type")) = true then PySem.W.subIn K (.type n) (.ref C) else none) = some b
  rw [if_pos (by rw [h1', h2] <;> rfl)]
  exact h4
end
/-! ### defs -/
section
variable {P : Program} {w : World} {K : PySem.W.Frag} {mg : Str → Option Value} {base : Heap}
theorem ok_defX {x qual : Str} {st : Stmt} {f : Addr} {fd : FuncData} {N ps : List Str} {k : Nat} {R : List D → Out → Prop} {t : WX → TS} (F : Fun K x qual st f fd) (S : FnScope N ps (defScope st)) (hl : ∀ xs out, R xs out → xs.length = ps.length)
    (hd : ∀ (cdv : Value) (A : Around) (outer : List Env) (s : Shared) (H : Hp) (E : XK), Room k (A.deeper (envOfC qual (defScope st) s.heap.objs.size f cdv)) → PSs (cxOf (L2.CX P w) P w K mg base N qual (defScope st) f cdv A outer s H E) (defBody st) (t fun cls d _ H => E cls d H))
    (hs : ∀ (E : WX) xs out, R xs out → SDef K E (t E) (slots N.length xs) out) : FnOk P w K mg base (L2.CX P w) (k + 1) f fd ps (spD K R) :=
  F.okX S (spD_len hl) fun cdv A outer s H vs Q E hr h => ⟨t _, hd cdv A outer s H E hr, body_run h (hs _)⟩
theorem spI_len {C : Addr} {R : List D → Out → Prop} {n : Nat} (h : ∀ xs out, R xs out → xs.length + 1 = n) : ∀ vs H Q E, spI K C R vs H Q E → vs.length = n := fun vs H Q E ⟨G, x, dx, us, xs, out, e0, _, _, _, _, r, hr, _⟩ => by
  rw [e0, List.length_cons, ← r.length]; exact h xs out hr
theorem ok_init {C : Addr} {x qual : Str} {st : Stmt} {f : Addr} {fd : FuncData} {N ps : List Str} {k : Nat} {R : List D → Out → Prop} {t : TS} (F : Fun K x qual st f fd) (S : FnScope N ps (defScope st)) (hl : ∀ xs out, R xs out → xs.length + 1 = ps.length) (hN : 0 < N.length)
    (hd : ∀ (cdv : Value) (A : Around) (outer : List Env) (s : Shared) (H : Hp) (E : XK), Room k (A.deeper (envOfC qual (defScope st) s.heap.objs.size f cdv)) → PSs (cxOf CX0 P w K mg base N qual (defScope st) f cdv A outer s H E).nox (defBody st) t)
    (hs : ∀ (E : WX) x xs out, R xs out → SDefI K E x C t (slotsI N.length x C xs) out) : FnOk P w K mg base CX0 (k + 1) f fd ps (spI K C R) :=
  F.ok S (spI_len hl) fun cdv A outer s H vs Q E hr h => ⟨t, hd cdv A outer s H E hr, init_run hN h (hs _)⟩
theorem ok_initX {C : Addr} {x qual : Str} {st : Stmt} {f : Addr} {fd : FuncData} {N ps : List Str} {k : Nat} {R : List D → Out → Prop} {t : WX → TS} (F : Fun K x qual st f fd) (S : FnScope N ps (defScope st)) (hl : ∀ xs out, R xs out → xs.length + 1 = ps.length) (hN : 0 < N.length)
    (hd : ∀ (cdv : Value) (A : Around) (outer : List Env) (s : Shared) (H : Hp) (E : XK), Room k (A.deeper (envOfC qual (defScope st) s.heap.objs.size f cdv)) → PSs (cxOf (L2.CX P w) P w K mg base N qual (defScope st) f cdv A outer s H E) (defBody st) (t fun cls d _ H => E cls d H))
    (hs : ∀ (E : WX) x xs out, R xs out → SDefI K E x C (t E) (slotsI N.length x C xs) out) : FnOk P w K mg base (L2.CX P w) (k + 1) f fd ps (spI K C R) :=
  F.okX S (spI_len hl) fun cdv A outer s H vs Q E hr h => ⟨t _, hd cdv A outer s H E hr, init_run hN h (hs _)⟩
end
end Far
/-! count, index, tuples repeated, lists lent, one of two picked. -/
namespace Far
open PySem L2 PySem.Spec PyProof.Rows
/-! ### count -/
def cntV (y : V) (ys : List V) : Nat := ys.countP fun z => eqV z y
def rCnt (K : PySem.W.Frag) : V → List V → Hp → VK → Prop := fun x xs H Q => ∃ (a : Addr) (ys : List V) (y : V), x = V.ref a ∧ xs = [y] ∧ SqL K H a ys ∧ flatV y = true ∧ ys.all flatV = true ∧ Q (.int (cntV y ys : Nat)) H
def rCntT (K : PySem.W.Frag) : V → List V → Hp → VK → Prop := fun x xs H Q => ∃ (a : Addr) (ys : List V) (y : V), x = V.ref a ∧ xs = [y] ∧ SqT K H a ys ∧ flatV y = true ∧ ys.all flatV = true ∧ Q (.int (cntV y ys : Nat)) H
section
variable {X : Cx}
theorem cnt_rel {y : V} : ∀ {ys : List V} {us : List Value}, Vals ys us → ys.all flatV = true → us.countP (eqU y) = cntV y ys
  | _, _, .nil, _ => rfl
  | z :: ys, u :: us, .cons r t, f => by
    rw [List.all_cons, Bool.and_eq_true] at f
    unfold cntV
    rw [List.countP_cons, List.countP_cons, eqU_of r f.1]
    have ih := cnt_rel (y := y) t f.2
    unfold cntV at ih
    rw [ih]
theorem mt_count : MtR X "list.count" (rCnt X.K) := by
  intro pins s σ H x xs v us Q I rx rxs h
  obtain ⟨a, ys, y, rfl, rfl, hs, fy, fys, q⟩ := h
  cases rx
  cases rxs with
  | cons ry rt =>
    rename_i uy ut
    cases rt
    obtain ⟨its, rv, ⟨⟨cls, dd, data, sl⟩, n, ho, hc, hdn, hd⟩, hlen⟩ := I.list hs
    simp only at hc hd
    subst hc hd
    refine call_meets PySem.F.slot_list_count ⟨_, ho, rfl⟩ PySem.F.entry_list_count (PySem.F.args_list_count_2 _ _) (SeqAt.list_countAt a its.toArray n dd sl uy (eqU y)) ⟨ho, fun u' hu' => mem_eqAt ry fy rv fys u' (by simpa using hu'), ?_⟩
    have e : its.toArray.toList.countP (eqU y) = cntV y ys := by simpa using cnt_rel (y := y) rv fys
    rw [e]
    exact ⟨.int (cntV y ys : Nat), H, I.tok _, ⟨_, rfl⟩, q⟩
theorem mt_countT : MtR X "tuple.count" (rCntT X.K) := by
  intro pins s σ H x xs v us Q I rx rxs h
  obtain ⟨a, ys, y, rfl, rfl, hs, fy, fys, q⟩ := h
  cases rx
  cases rxs with
  | cons ry rt =>
    rename_i uy ut
    cases rt
    obtain ⟨its, rv, ⟨⟨cls, dd, data, sl⟩, ho, hc, n, hd⟩, hlen⟩ := I.tuple hs
    simp only at hc hd
    subst hc hd
    refine call_meets PySem.F.slot_tuple_count ⟨_, ho, rfl⟩ PySem.F.entry_tuple_count (PySem.F.args_tuple_count_2 _ _) (SeqAt.tuple_countAt a its.toArray n dd sl uy (eqU y)) ⟨ho, fun u' hu' => mem_eqAt ry fy rv fys u' (by simpa using hu'), ?_⟩
    have e : its.toArray.toList.countP (eqU y) = cntV y ys := by simpa using cnt_rel (y := y) rv fys
    rw [e]
    exact ⟨.int (cntV y ys : Nat), H, I.tok _, ⟨_, rfl⟩, q⟩
end
/-! ### over data -/
def flatD : D → Bool
  | .non => true | .bl _ => true | .int _ => true | .str _ => true | _ => false
def vOf : D → V
  | .bl b => .bl b | .int i => .int i | .str x => .str x | _ => .non
def eqF (x y : D) : Bool := eqV (vOf x) (vOf y)
section
variable {K : PySem.W.Frag} {δ : List S} {to te ta tb ti : TE} {t : TA} {x y z : D} {xs ys : List D}
theorem flat_rp {G : Hp} {v : V} (h : flatD x = true) (r : Rp K G x v) : v = vOf x ∧ flatV v = true := by
  cases r <;> first | exact ⟨rfl, rfl⟩ | simp [flatD] at h
theorem flat_rpl {G : Hp} : ∀ {xs : List D} {vs : List V}, xs.all flatD = true → RpL K G xs vs → vs = xs.map vOf ∧ vs.all flatV = true
  | [], _, _, .nil => ⟨rfl, rfl⟩
  | x :: xs, _, h, .cons r0 r => by
    rw [List.all_cons, Bool.and_eq_true] at h
    obtain ⟨e1, f1⟩ := flat_rp h.1 r0
    obtain ⟨e2, f2⟩ := flat_rpl h.2 r
    rw [e1] at f1
    rw [e2] at f2
    exact ⟨by rw [e1, e2]; rfl, by rw [e1, e2, List.all_cons, f1, f2]; rfl⟩
theorem ev_cnt (h : EV K to δ (.d (.lst xs))) (ha : EA K t δ [y]) (fy : flatD y = true) (fx : xs.all flatD = true) : EV K (tBM K "list" (rCnt K) to t) δ (.d (.int (xs.countP fun z => eqF z y : Nat))) := by
  intro He Ge H τo τs σ hl ok Q q
  refine h He Ge H τo τs σ hl ok _ fun v H1 ok1 => ?_
  obtain ⟨G, ok1⟩ := ok1
  obtain ⟨_, e1, r1⟩ := ok1.top
  cases e1
  cases r1 with
  | lst hp r =>
    refine ⟨.inl ⟨rfl, _, SqL.of (ok1.gh _ _ hp)⟩, ?_⟩
    refine ha He Ge H1 (some _ :: τo) (.d (.lst xs) :: τs) σ (by simp [hl]) ⟨G, ok1⟩ _ fun us H2 G2 ok2 r2 => ?_
    obtain ⟨_, e2, r3⟩ := ok2.top
    cases e2
    cases r3 with
    | lst hp3 r3 =>
      cases r2 with
      | cons ry rn =>
        cases rn
        obtain ⟨e3, f3⟩ := flat_rp fy ry
        obtain ⟨e4, f4⟩ := flat_rpl fx r3
        refine ⟨_, _, _, rfl, rfl, SqL.of (ok2.gh _ _ hp3), f3, f4, ?_⟩
        have e : cntV (vOf y) (xs.map vOf) = xs.countP fun z => eqF z y := by
          unfold cntV eqF
          rw [List.countP_map]; rfl
        rw [e3, e4, e]
        exact q _ _ ⟨G2, ok2.pop.pushD .int⟩
theorem ev_idx {j : Nat} (h : EV K to δ (.d (.lst xs))) (ha : EA K t δ [y]) (fy : flatD y = true) (fx : xs.all flatD = true) (hz : xs[j]? = some z) (ez : eqF z y = true) (hno : ∀ (m : Nat) (z' : D), m < j → xs[m]? = some z' → eqF z' y = false) :
    EV K (tBM K "list" (rIndex K) to t) δ (.d (.int (j : Nat))) := by
  intro He Ge H τo τs σ hl ok Q q
  refine h He Ge H τo τs σ hl ok _ fun v H1 ok1 => ?_
  obtain ⟨G, ok1⟩ := ok1
  obtain ⟨_, e1, r1⟩ := ok1.top
  cases e1
  cases r1 with
  | lst hp r =>
    refine ⟨.inl ⟨rfl, _, SqL.of (ok1.gh _ _ hp)⟩, ?_⟩
    refine ha He Ge H1 (some _ :: τo) (.d (.lst xs) :: τs) σ (by simp [hl]) ⟨G, ok1⟩ _ fun us H2 G2 ok2 r2 => ?_
    obtain ⟨_, e2, r3⟩ := ok2.top
    cases e2
    cases r3 with
    | lst hp3 r3 =>
      cases r2 with
      | cons ry rn =>
        cases rn
        obtain ⟨e3, f3⟩ := flat_rp fy ry
        obtain ⟨e4, f4⟩ := flat_rpl fx r3
        refine ⟨_, _, _, j, vOf z, rfl, rfl, SqL.of (ok2.gh _ _ hp3), f3, f4, by rw [e4, List.getElem?_map, hz]; rfl, by rw [e3]; exact ez, fun m z' hm hz' => ?_, q _ _ ⟨G2, ok2.pop.pushD .int⟩⟩
        rw [e4, List.getElem?_map] at hz'
        obtain ⟨w, ew, rfl⟩ := Option.map_eq_some_iff.mp hz'
        rw [e3]; exact hno m w hm ew
/-! ### a list of one's own lent for one expression -/
/-- no list in it -/
inductive Lf : D → Prop
  | non : Lf .non
  | bl (b : Bool) : Lf (.bl b)
  | int (i : Int) : Lf (.int i)
  | str (w : Str) : Lf (.str w)
  | ty (n : String) : Lf (.ty n)
  | cls (a : Addr) : Lf (.cls a)
  | tup {ws : List D} : (∀ w ∈ ws, Lf w) → Lf (.tup ws)
  | ins {C : Addr} {fs : List (Str × D)} : (∀ w ∈ fs, Lf w.2) → Lf (.ins C fs)
def delG (G : Hp) (p : Addr) : Hp := fun b => if b = p then none else G b
theorem delG_of {G : Hp} {p a : Addr} {o : HO} (h : a ≠ p) (e : G a = some o) : delG G p a = some o := by unfold delG; rw [if_neg h]; exact e
theorem delG_ex {G : Hp} {p : Addr} : Ex (delG G p) G := fun a o e => by
  unfold delG at e
  split at e
  · cases e
  · exact e
theorem Rp.del {G : Hp} {p : Addr} {us : List V} (hp : G p = some (.lst us)) : ∀ {x : D} {v : V}, Lf x → Rp K G x v → Rp K (delG G p) x v := by
  have main : ∀ (n : Nat) (x : D) (v : V), sizeOf x < n → Lf x → Rp K G x v → Rp K (delG G p) x v := by
    intro n
    induction n with
    | zero => intro x v h; omega
    | succ n ih =>
      intro x v hn l r
      cases r with
      | non => exact .non
      | bl => exact .bl
      | int => exact .int
      | str => exact .str
      | ty => exact .ty
      | cls => exact .cls
      | tup h r =>
        cases l with
        | tup l =>
          have hne : ∀ {a : Addr} {vs : List V}, SqT K G a vs → SqT K (delG G p) a vs := fun {a vs} h => by
            rcases h with (h | ⟨o, h⟩) | h
            · exact .inl (.inl (delG_of (fun z => by rw [z, hp] at h; cases h) h))
            · exact .inl (.inr ⟨o, delG_of (fun z => by rw [z, hp] at h; cases h) h⟩)
            · exact .inr h
          refine .tup (hne h) ?_
          rename_i a vs xs
          have sub : ∀ (ys : List D) (ws : List V), (∀ y ∈ ys, sizeOf y < n) → (∀ y ∈ ys, Lf y) → RpL K G ys ws → RpL K (delG G p) ys ws := by
            intro ys
            induction ys with
            | nil => intro ws _ _ r; cases r; exact .nil
            | cons y ys ih2 =>
              intro ws h1 h2 r
              cases r with
              | cons r0 r => exact .cons (ih y _ (h1 y List.mem_cons_self) (h2 y List.mem_cons_self) r0) (ih2 _ (fun z hz => h1 z (List.mem_cons_of_mem _ hz)) (fun z hz => h2 z (List.mem_cons_of_mem _ hz)) r)
          refine sub xs vs (fun y hy => ?_) l r
          have := List.sizeOf_lt_of_mem hy
          have e : sizeOf (D.tup xs) = 1 + sizeOf xs := by simp
          omega
      | lst h r => cases l
      | scr h r => cases l
      | ins h r =>
        cases l with
        | ins l =>
          rename_i a dx C fs gs
          refine .ins (delG_of (fun z => by rw [z, hp] at h; cases h) h) ?_
          have sub : ∀ (ys : List (Str × D)) (ws : List (Str × V)), (∀ y ∈ ys, sizeOf y < n) → (∀ y ∈ ys, Lf y.2) → RpF K G ys ws → RpF K (delG G p) ys ws := by
            intro ys
            induction ys with
            | nil => intro ws _ _ r; cases r; exact .nil
            | cons y ys ih2 =>
              intro ws h1 h2 r
              cases r with
              | @cons ff xx _ _ _ r0 r =>
                refine .cons (ih _ _ ?_ (h2 (ff, xx) List.mem_cons_self) r0) (ih2 _ (fun z hz => h1 z (List.mem_cons_of_mem _ hz)) (fun z hz => h2 z (List.mem_cons_of_mem _ hz)) r)
                have := h1 (ff, xx) List.mem_cons_self
                have e : sizeOf (ff, xx) = 1 + sizeOf ff + sizeOf xx := by simp
                omega
          refine sub fs gs (fun y hy => ?_) l r
          have := List.sizeOf_lt_of_mem hy
          have e : sizeOf (D.ins C fs) = 1 + sizeOf C + sizeOf fs := by simp
          omega
      | dK h r => cases l
      | exc0 h => cases l
      | exc1 h h2 r n => cases l
      | exo h => cases l
  exact fun {x v} l r => main _ x v (Nat.lt_succ_self _) l r
theorem RpL.del {G : Hp} {p : Addr} {us : List V} (hp : G p = some (.lst us)) : ∀ {xs : List D} {vs : List V}, (∀ x ∈ xs, Lf x) → RpL K G xs vs → RpL K (delG G p) xs vs
  | _, _, _, .nil => .nil
  | _, _, l, .cons r0 r => .cons (r0.del hp (l _ List.mem_cons_self)) (r.del hp fun x hx => l x (List.mem_cons_of_mem _ hx))
/-- what the other lists of one's own hold while one is lent: no lists; no instance of one's own -/
def Lend (δ : List S) (i : Nat) : Prop := ∀ (k : Nat) (s : S), k ≠ i → δ[k]? = some s → match s with | .own ys => ∀ y ∈ ys, Lf y | .ob _ _ _ => False | _ => True
theorem ev_lend {i : Nat} (hi : δ[i]? = some (.own xs)) (h : EV K te (δ.set i (.d (.lst xs))) (.d x)) (lx : Lf x) (le : Lend δ i) {He Ge H : Hp} {σ : L2.St} (ok : OK K He Ge H σ δ) {Q : VK} (q : ∀ v H', OK K He Ge H' (some v :: σ) (.d x :: δ) → Q v H') : te σ H Q := by
  obtain ⟨G, ok⟩ := ok
  obtain ⟨o, eo, p, vs, rfl, h1, h2, h3, r⟩ := ok.sl i _ hi
  have hlt : i < δ.length := (List.getElem?_eq_some_iff.mp hi).1
  have g1 : Ex G (upd G p (.lst vs)) := .new h2
  have ok1 : OKG K He (upd G p (.lst vs)) H (upd G p (.lst vs)) σ (δ.set i (.d (.lst xs))) := by
    refine ⟨.refl _, fun a u e => ?_, ok.he, fun _ _ z => z, fun j s hj => ?_, fun j k s t p' hjk hj hk o1 o2 e1 e2 => ?_⟩
    · by_cases z : a = p
      · subst z; rw [upd_same] at e; cases e; exact h3
      · rw [upd_ne z] at e; exact ok.gh a u e
    · by_cases z : i = j
      · subst z
        rw [List.getElem?_set_self hlt] at hj; cases hj
        exact ⟨_, eo, _, rfl, .lst upd_same (r.mono g1)⟩
      · rw [List.getElem?_set_ne z] at hj
        obtain ⟨o, e, k⟩ := ok.sl j s hj
        refine ⟨o, e, ?_⟩
        cases s with
        | un => trivial
        | d x => obtain ⟨v, e1, r'⟩ := k; exact ⟨v, e1, r'.mono g1⟩
        | own ys =>
          obtain ⟨p2, vs2, rfl, k1, k2, k3, r2⟩ := k
          have ne : p2 ≠ p := fun y => ok.ne i j _ _ p z hi hj rfl rfl eo (by rw [← y]; exact e)
          exact ⟨p2, vs2, rfl, k1, by rw [upd_ne ne]; exact k2, k3, r2.mono g1⟩
        | ob a C fs => exact (le j _ (Ne.symm z) hj).elim
    · have un : ∀ (m : Nat) (s : S), (δ.set i (.d (.lst xs)))[m]? = some s → owned s = true → δ[m]? = some s := fun m s q1 q2 => by
        by_cases z : i = m
        · subst z; rw [List.getElem?_set_self hlt] at q1; cases q1; cases q2
        · rw [List.getElem?_set_ne z] at q1; exact q1
      exact ok.ne j k s t p' hjk (un j s hj o1) (un k t hk o2) o1 o2 e1 e2
  refine h He _ H [] [] σ rfl ⟨_, ok1⟩ Q fun v H' ⟨G', ok'⟩ => q v H' ⟨delG G' p, ?_⟩
  have hp' : G' p = some (.lst vs) := ok'.ge p _ upd_same
  have gg : Ex G (delG G' p) := fun a u e => delG_of (ne_of_none e h2) (ok'.ge a u (g1 a u e))
  have okp := ok'.pop
  refine OKG.push ⟨ok.ge.trans gg, delG_ex.trans ok'.gh, ok'.he, fun b b1 b2 => ?_, fun j s hj => ?_, ok.ne⟩ ?_ fun z => nomatch z
  · have z1 := ok.nc b b1 b2
    by_cases z : b = p
    · subst z; unfold delG; rw [if_pos rfl]
    · have z2 := ok'.nc b b1 (by rw [upd_ne z]; exact z1)
      unfold delG; rw [if_neg z]; exact z2
  · by_cases z : i = j
    · subst z
      rw [hi] at hj; cases hj
      refine ⟨_, eo, p, vs, rfl, h1, by unfold delG; rw [if_pos rfl], ok'.gh p _ hp', r.mono gg⟩
    · obtain ⟨o, e, k⟩ := ok.sl j s hj
      refine ⟨o, e, ?_⟩
      cases s with
      | un => trivial
      | d x => obtain ⟨v, e1, r'⟩ := k; exact ⟨v, e1, r'.mono gg⟩
      | own ys =>
        obtain ⟨o', e', p2, vs2, rfl, k1, k2, k3, r2⟩ := okp.sl j (.own ys) (by show (δ.set i (.d (.lst xs)))[j]? = _; rw [List.getElem?_set_ne z]; exact hj)
        have e' : σ[j]? = _ := e'
        rw [e] at e'; cases e'
        exact ⟨p2, vs2, rfl, k1, by unfold delG; split <;> first | rfl | exact k2, k3, r2.del hp' (le j _ (Ne.symm z) hj)⟩
      | ob a C fs => exact (le j _ (Ne.symm z) hj).elim
  · obtain ⟨w, e, rw_⟩ := ok'.top
    cases e
    exact ⟨v, rfl, rw_.del hp' lx⟩
variable {W : WX} {N B Ct : List S → Prop} {Rt : S → Prop} {Xc : List S → Addr → List (Str × D) → Prop} {tt uu : TS} {c : TT} {b : Bool}
theorem sd_setL {i j : Nat} (hi : δ[i]? = some (.own xs)) (h : EV K te (δ.set i (.d (.lst xs))) (.d x)) (lx : Lf x) (le : Lend δ i) (hj : j < δ.length) (n : N (δ.set j (.d x))) : SD K W (tAsg te (gName j)) δ N Rt B Ct Xc := fun He Ge H σ Dn ok nx r bk ct xx =>
  ev_lend hi h lx le ok fun v H' ⟨G', ok'⟩ => nx _ _ _ ⟨G', ok'.store hj⟩ n
theorem sd_dropL {i : Nat} (hi : δ[i]? = some (.own xs)) (h : EV K te (δ.set i (.d (.lst xs))) (.d x)) (lx : Lf x) (le : Lend δ i) (n : N δ) : SD K W (tDrop te) δ N Rt B Ct Xc := fun He Ge H σ Dn ok nx r bk ct xx =>
  ev_lend hi h lx le ok fun v H' ⟨G', ok'⟩ => nx _ _ _ ⟨G', ok'.pop⟩ n
/-! ### one of a display picked, with a list of one's own in it -/
theorem OKG.nip {He Ge H G : Hp} {σ : L2.St} {o1 o2 : Option V} {s1 s2 : S} (h : OKG K He Ge H G (o1 :: o2 :: σ) (s1 :: s2 :: δ)) : OKG K He Ge H G (o1 :: σ) (s1 :: δ) :=
  h.pop.pop.push h.top fun ho j t p e hj ho2 eσ => h.ne 0 (j + 2) s1 t p (by omega) rfl (by simpa using hj) ho ho2 (by rw [e]; rfl) (by simpa using eσ)
/-- an expression of plain numbers: the heap stays -/
def PV (K : PySem.W.Frag) (te : TE) (δ : List S) (x : D) : Prop := ∀ (He Ge H G : Hp) (τo : L2.St) (τs : List S) (σ : L2.St), τo.length = τs.length → OKG K He Ge H G (τo ++ σ) (τs ++ δ) → ∀ Q : VK, (∀ v, Rp K G x v → Q v H) → te σ H Q
def RP2 (K : PySem.W.Frag) (r : R2) (x y z : D) : Prop := ∀ (H G : Hp) (v u : V), Rp K G x v → Rp K G y u → ∀ Q : VK, (∀ w, Rp K G z w → Q w H) → r v u H Q
theorem pv_var {i : Nat} (h : δ[i]? = some (.d x)) : PV K (tVar i) δ x := by
  intro He Ge H G τo τs σ hl ok Q q
  obtain ⟨e1, e2⟩ := len_append (d := δ) (c := σ) hl i
  obtain ⟨o, eo, v, rfl, r⟩ := ok.sl (τs.length + i) _ (e1.trans h)
  exact ⟨v, e2.symm.trans eo, q v r⟩
theorem pv_int {i : Int} : PV K (tC (.int i)) δ (.int i) := fun He Ge H G τo τs σ hl ok Q q => q _ .int
theorem pv_op {r : R2} (ha : PV K ta δ x) (hb : PV K tb δ y) (hr : RP2 K r x y z) : PV K (tOp r ta tb) δ z := fun He Ge H G τo τs σ hl ok Q q =>
  ha He Ge H G τo τs σ hl ok _ fun v r1 => hb He Ge H G τo τs σ hl ok _ fun u r2 => hr H G v u r1 r2 Q q
theorem rp_mod {i j : Int} (h : 0 < j) : RP2 K (rI (fun _ j => 0 < j) fun i j => .int (i % j)) (.int i) (.int j) (.int (i % j)) := by
  intro H G v u r1 r2 Q q
  cases r1; cases r2; exact ⟨_, _, rfl, rfl, h, q _ .int⟩
theorem rp_fdiv {i j : Int} (h : CDivW i j) : RP2 K (rI CDivW fun i j => .int (i / j)) (.int i) (.int j) (.int (i / j)) := by
  intro H G v u r1 r2 Q q
  cases r1; cases r2; exact ⟨_, _, rfl, rfl, h, q _ .int⟩
theorem ev_pickR (ha : EV K ta δ (.d x)) (hb : EV K tb δ (.own ys)) {j : Int} (hi : PV K ti δ (.int j)) (hj : j = 1) : EV K (tOp (rIx K) (tLst (tCons ta (tCons tb tNil))) ti) δ (.own ys) := by
  subst hj
  intro He Ge H τo τs σ hl ok Q q
  refine ha He Ge H τo τs σ hl ok _ fun v H1 ok1 => ?_
  refine hb He Ge H1 (some v :: τo) (.d x :: τs) σ (by simp [hl]) ok1 _ fun u H2 ⟨G2, ok2⟩ => ⟨?_, fun p hp => ?_⟩
  · rw [sizeLine_eq]; show (2 : Nat) ≤ _; decide
  · have ok3 : OKG K He Ge (upd H2 p (.lst [v, u])) G2 (some u :: some v :: (τo ++ σ)) (.own ys :: .d x :: (τs ++ δ)) := ok2.newH hp
    refine hi He Ge _ G2 (some u :: some v :: τo) (.own ys :: .d x :: τs) σ (by simp [hl]) ok3 _ fun w rw_ => ?_
    cases rw_
    exact .inl ⟨p, [v, u], 1, u, rfl, rfl, SqL.of upd_same, rfl, q u _ ⟨G2, ok3.nip⟩⟩
theorem ev_pickL (ha : EV K ta δ (.own ys)) (hb : EV K tb δ (.d x)) {j : Int} (hi : PV K ti δ (.int j)) (hj : j = 0) : EV K (tOp (rIx K) (tLst (tCons ta (tCons tb tNil))) ti) δ (.own ys) := by
  subst hj
  intro He Ge H τo τs σ hl ok Q q
  refine ha He Ge H τo τs σ hl ok _ fun v H1 ok1 => ?_
  refine hb He Ge H1 (some v :: τo) (.own ys :: τs) σ (by simp [hl]) ok1 _ fun u H2 ⟨G2, ok2⟩ => ⟨?_, fun p hp => ?_⟩
  · rw [sizeLine_eq]; show (2 : Nat) ≤ _; decide
  · have ok3 : OKG K He Ge (upd H2 p (.lst [v, u])) G2 (some u :: some v :: (τo ++ σ)) (.d x :: .own ys :: (τs ++ δ)) := ok2.newH hp
    refine hi He Ge _ G2 (some u :: some v :: τo) (.d x :: .own ys :: τs) σ (by simp [hl]) ok3 _ fun w rw_ => ?_
    cases rw_
    exact .inl ⟨p, [v, u], 0, v, rfl, rfl, SqL.of upd_same, rfl, q v _ ⟨G2, ok3.pop⟩⟩
end
/-! ### one of two ways, empty promises -/
def tEither (t u : TE) : TE := fun σ H Q => t σ H Q ∨ u σ H Q
theorem pe_either {X : Cx} {e : Expr} {t u : TE} (h1 : PE X e t) (h2 : PE X e u) : PE X e (tEither t u) := ⟨fun pins s σ H Q I h => h.elim (h1.run pins s σ H Q I) (h2.run pins s σ H Q I)⟩
theorem pass0C {X : Cx} {σ : L2.St} : PassesAt CX0 X σ E0 := fun pins H s e s' I c => pass0 pins σ H s e s' I c
section
variable {K : PySem.W.Frag} {δ : List S} {t u : TE} {s : S} {c : Addr} {cf : List (Str × D)} {E : L2.St → XK}
theorem ev_eL (h : EV K t δ s) : EV K (tEither t u) δ s := fun He Ge H τo τs σ hl ok Q q => .inl (h He Ge H τo τs σ hl ok Q q)
theorem ev_eR (h : EV K u δ s) : EV K (tEither t u) δ s := fun He Ge H τo τs σ hl ok Q q => .inr (h He Ge H τo τs σ hl ok Q q)
theorem ex_eL (h : EX K E t δ c cf) : EX K E (tEither t u) δ c cf := fun He Ge H τo τs σ hl ok k Q => .inl (h He Ge H τo τs σ hl ok k Q)
theorem ex_eR (h : EX K E u δ c cf) : EX K E (tEither t u) δ c cf := fun He Ge H τo τs σ hl ok k Q => .inr (h He Ge H τo τs σ hl ok k Q)
end
theorem fnok_none {P : Program} {w : World} {K : PySem.W.Frag} {mg : Str → Option Value} {base : Heap} {CX : CXT} {k : Nat} {f : Addr} {fd : FuncData} {ps : List Str} : FnOk P w K mg base CX k f fd ps (spD K fun _ _ => False) :=
  ⟨fun vs H Q E ⟨_, _, _, _, _, z, _⟩ => z.elim, fun A outer s H args us vs Q E hr he hb hv ⟨_, _, _, _, _, z, _⟩ => z.elim⟩
/-- classes named one by one -/
inductive ClsL : List D → List Value → Prop
  | nil : ClsL [] []
  | ty {n : String} {cs : List D} {us : List Value} : ClsL cs us → ClsL (.ty n :: cs) (.type n :: us)
  | cls {a : Addr} {cs : List D} {us : List Value} : ClsL cs us → ClsL (.cls a :: cs) (.ref a :: us)
theorem ClsL.mapM {cs : List D} {us : List Value} (h : ClsL cs us) : cs.mapM clsD = some us := by
  induction h with
  | nil => rfl
  | ty _ ih => rw [List.mapM_cons, ih]; rfl
  | cls _ ih => rw [List.mapM_cons, ih]; rfl
theorem is_anyL {K : PySem.W.Frag} {x : D} {b : Bool} {t : Value} {cs : List D} {us : List Value} (hk : Kin K x t) (hc : ClsL cs us) (h : PySem.W.kitAny K t us = some b) : RVN K (rIsU K) [x, .tup cs] (.d (.bl b)) := is_anyT hk hc.mapM h
theorem kitAny_t {K : PySem.W.Frag} {t c : Value} {cs : List Value} (h : PySem.W.kitOne K t c = some true) : PySem.W.kitAny K t (c :: cs) = some true := kitAny_cons (r := true) h (fun z => nomatch z) fun _ => rfl
theorem kitAny_f {K : PySem.W.Frag} {t c : Value} {cs : List Value} {r : Bool} (h : PySem.W.kitOne K t c = some false) (hr : PySem.W.kitAny K t cs = some r) : PySem.W.kitAny K t (c :: cs) = some r := kitAny_cons h (fun _ => hr) fun z => nomatch z
theorem isU_ty2 {K : PySem.W.Frag} {x : D} {m n : String} (hk : known x = true) (h1 : (kitB (tyN x) m).isSome = true) (h2 : (kitB (tyN x) n).isSome = true) : RVN K (rIsU K) [x, .tup [.ty m, .ty n]] (.d (.bl (isTy x m || isTy x n))) := by
  refine is_anyL (.ty hk) (.ty (.ty .nil)) ?_
  have h := kitAny_tys (K := K) (x := x) (ns := [m, n]) (by intro k hk2; simp at hk2; rcases hk2 with rfl | rfl <;> assumption)
  simpa using h
theorem lk_one {f : Str} {x : D} {r : List (Str × D)} : List.lookup f ((f, x) :: r) = some x := by
  have e : (f == f) = true := beq_self_eq_true f
  simp only [List.lookup, e]
theorem lk_none {f g : Str} {x : D} (h : (f == g) = false) : List.lookup f [(g, x)] = none := by simp only [List.lookup, h]
/-- xs[i] = e, xs a list of one's own -/
theorem sd_setIx {K : PySem.W.Frag} {δ : List S} {te ti : TE} {x : D} {xs : List D} {W : WX} {N B Ct : List S → Prop} {Rt : S → Prop} {Xc : List S → Addr → List (Str × D) → Prop} {k m : Nat} {j : Int}
    (hi : δ[k]? = some (.own xs)) (h : EV K te δ (.d x)) (h2 : EV K ti δ (.d (.int j))) (hm : ixN xs.length j = some m) (n : N (δ.set k (.own (xs.set m x)))) : SD K W (tAsg te (gSub (tVar k) ti rSetL)) δ N Rt B Ct Xc := by
  intro He Ge H σ Dn ok nx rt bk ct xx
  refine ev0 h ok fun v H1 ⟨G1, ok1⟩ => ?_
  obtain ⟨o, eo, p, vs, rfl, h1, h2', h3, rv⟩ := ok1.pop.sl k _ hi
  refine ⟨_, eo, ?_⟩
  refine h2 He Ge H1 [some v] [.d x] σ rfl ⟨G1, ok1⟩ _ fun w H2 ⟨G2, ok2⟩ => ?_
  obtain ⟨_, ew, rw_⟩ := ok2.top
  cases ew; cases rw_
  have ok3 : OKG K He Ge H2 G2 (some v :: σ) (.d x :: δ) := ok2.pop
  obtain ⟨o2, eo2, p2, vs2, e2, k1, k2, k3, rv2⟩ := ok3.pop.sl k (.own xs) hi
  rw [eo] at eo2; cases eo2; cases e2
  obtain ⟨_, e4, rx⟩ := ok3.top
  cases e4
  refine ⟨p, vs2, j, m, rfl, rfl, k3, by rw [← rv2.length]; exact hm, ?_⟩
  exact nx _ _ _ ⟨G2, OKG.change ok3.pop hi eo k3 (rv2.set rx m)⟩ n
theorem ev_chain {K : PySem.W.Frag} {δ : List S} {r r' : R2} {ta tb tc : TE} {x y z : D} {a b : Bool} (ha : EV K ta δ (.d x)) (hb : EV K tb δ (.d y)) (h1 : RV2 K r x y (.d (.bl a))) (hc : EV K tc δ (.d z)) (h2 : RV2 K r' y z (.d (.bl b))) : EV K (tChain r r' ta tb tc) δ (.d (.bl (a && b))) := by
  intro He Ge H τo τs σ hl ok Q q
  refine ha He Ge H τo τs σ hl ok _ fun v H1 ok1 => ?_
  refine hb He Ge H1 (some v :: τo) (.d x :: τs) σ (by simp [hl]) ok1 _ fun u H2 ok2 => ?_
  obtain ⟨G2, ok2⟩ := ok2
  obtain ⟨_, e1, r1⟩ := ok2.top
  obtain ⟨_, e2, r2⟩ := ok2.pop.top
  cases e1; cases e2
  refine h1 He Ge H2 G2 _ _ v u ok2 r2 r1 _ fun w H3 ⟨G3, ok3⟩ => ?_
  obtain ⟨_, e3, r3⟩ := ok3.top
  cases e3; cases r3
  refine ⟨a, rfl, ?_⟩
  have ok4 : OKG K He Ge H3 G3 (some u :: some v :: (τo ++ σ)) (.d y :: .d x :: (τs ++ δ)) := ok3.pop
  cases a with
  | false => exact iteF (q _ _ ⟨G3, ok4.pop.pop.pushD .bl⟩)
  | true =>
    refine iteT (hc He Ge H3 (some u :: some v :: τo) (.d y :: .d x :: τs) σ (by simp [hl]) ⟨G3, ok4⟩ _ fun w H4 ⟨G4, ok5⟩ => ?_)
    obtain ⟨_, e5, r5⟩ := ok5.top
    obtain ⟨_, e6, r6⟩ := ok5.pop.top
    cases e5; cases e6
    exact h2 He Ge H4 G4 _ _ u w ok5.pop.pop.pop r6 r5 Q q
/-- a list of one's own in slot i is data from now on -/
theorem OKG.freezeAt {K : PySem.W.Frag} {He Ge H G : Hp} {σ : L2.St} {δ : List S} {i : Nat} {xs : List D} (ok : OKG K He Ge H G σ δ) (hi : δ[i]? = some (.own xs)) : ∃ G', OKG K He Ge H G' σ (δ.set i (.d (.lst xs))) := by
  obtain ⟨o, eo, p, vs, rfl, h1, h2, h3, r⟩ := ok.sl i _ hi
  have hlt : i < δ.length := (List.getElem?_eq_some_iff.mp hi).1
  have g1 : Ex G (upd G p (.lst vs)) := .new h2
  refine ⟨upd G p (.lst vs), ok.ge.trans g1, fun a u e => ?_, ok.he, fun b b1 b2 => ?_, fun j s hj => ?_, fun j k s t p' hjk hj hk o1 o2 e1 e2 => ?_⟩
  · by_cases z : a = p
    · subst z; rw [upd_same] at e; cases e; exact h3
    · rw [upd_ne z] at e; exact ok.gh a u e
  · have z : b ≠ p := fun y => b1 (by rw [y]; exact h1)
    rw [upd_ne z]; exact ok.nc b b1 b2
  · by_cases z : i = j
    · subst z
      rw [List.getElem?_set_self hlt] at hj; cases hj
      exact ⟨_, eo, _, rfl, .lst upd_same (r.mono g1)⟩
    · rw [List.getElem?_set_ne z] at hj
      obtain ⟨o, e, k⟩ := ok.sl j s hj
      refine ⟨o, e, ?_⟩
      cases s with
      | un => trivial
      | d x => obtain ⟨v, e1, r'⟩ := k; exact ⟨v, e1, r'.mono g1⟩
      | own ys =>
        obtain ⟨p2, vs2, rfl, k1, k2, k3, r2⟩ := k
        have ne : p2 ≠ p := fun y => ok.ne i j _ _ p z hi hj rfl rfl eo (by rw [← y]; exact e)
        exact ⟨p2, vs2, rfl, k1, by rw [upd_ne ne]; exact k2, k3, r2.mono g1⟩
      | ob a C fs =>
        obtain ⟨dx, gs, rfl, k1, k2, k3, k4, k5, k6, r'⟩ := k
        have n1 : a ≠ p := fun y => by rw [y, h3] at k5; cases k5
        have n2 : dx ≠ p := fun y => by rw [y, h3] at k6; cases k6
        exact ⟨dx, gs, rfl, k1, by rw [upd_ne n1]; exact k2, k3, by rw [upd_ne n2]; exact k4, k5, k6, r'.mono g1⟩
  · have un : ∀ (m : Nat) (s : S), (δ.set i (.d (.lst xs)))[m]? = some s → owned s = true → δ[m]? = some s := fun m s q1 q2 => by
      by_cases z : i = m
      · subst z; rw [List.getElem?_set_self hlt] at q1; cases q1; cases q2
      · rw [List.getElem?_set_ne z] at q1; exact q1
    exact ok.ne j k s t p' hjk (un j s hj o1) (un k t hk o2) o1 o2 e1 e2
theorem sd_frzAt {K : PySem.W.Frag} {δ : List S} {xs : List D} {W : WX} {N B Ct : List S → Prop} {Rt : S → Prop} {Xc : List S → Addr → List (Str × D) → Prop} {t : TS} {i : Nat} (hi : δ[i]? = some (.own xs)) (h : SD K W t (δ.set i (.d (.lst xs))) N Rt B Ct Xc) : SD K W t δ N Rt B Ct Xc := fun He Ge H σ Dn ⟨G, ok⟩ nx r bk ct xx => by
  obtain ⟨G', ok'⟩ := ok.freezeAt hi
  exact h He Ge H σ Dn ⟨G', ok'⟩ nx r bk ct xx
theorem sIx_some {n d : Nat} {a : Int} (h0 : 0 ≤ a) : HT.sIx n d (some a) = min a.toNat n := by
  show (if a < 0 then (a + (n : Int)).toNat else min a.toNat n) = _
  rw [if_neg (by omega)]
theorem cut_to {xs : List D} {a : Int} (h0 : 0 ≤ a) : cutD xs none (some a) = xs.take a.toNat := by
  unfold cutD
  rw [sIx_some h0, HT.sIx_none, List.drop_zero, Nat.sub_zero]
  rcases Nat.le_total a.toNat xs.length with h | h
  · rw [Nat.min_eq_left h]
  · rw [Nat.min_eq_right h, List.take_length, List.take_of_length_le h]
theorem cut_from {xs : List D} {a : Int} (h0 : 0 ≤ a) : cutD xs (some a) none = xs.drop a.toNat := by
  unfold cutD
  rw [sIx_some h0, HT.sIx_none]
  rcases Nat.le_total a.toNat xs.length with h | h
  · rw [Nat.min_eq_left h, List.take_of_length_le (by rw [List.length_drop]; exact Nat.le_refl _)]
  · rw [Nat.min_eq_right h, List.drop_length, List.drop_of_length_le h, List.take_nil]
end Far
/-! Loops that carry a fact; a tuple once. -/
namespace Far
open PySem L2 PySem.Spec PyProof.Rows
section
variable {K : PySem.W.Frag} {δ : List S} {E : WX} {N B C : List S → Prop} {R : S → Prop} {X : List S → Addr → List (Str × D) → Prop}
theorem sd_forP {α : Type} {ys : List α} {h : α → D} {wi : TI} {g : TG} {tb : TS} (P : Nat → Prop) (p0 : P 0) (hi : EI K wi δ (ys.map h)) (I : Nat → List S) (h0 : weak δ (I 0))
    (k : ∀ i y, ys[i]? = some y → P i → ∃ δ2, ET K g (I i) (h y) δ2 ∧ SD K E tb δ2 (fun δ' => P (i + 1) ∧ weak δ' (I (i + 1))) R N (fun δ' => P (i + 1) ∧ weak δ' (I (i + 1))) X) (hd : P ys.length → N (I ys.length)) : SD K E (tFor wi g tb) δ N R B C X := by
  intro He Ge H σ Dn ok nx r bk ct xx
  refine hi He Ge H [] [] σ rfl ok _ fun J H1 G us ok1 r1 jis => ?_
  have lus : us.length = ys.length := by rw [← r1.length, List.length_map]
  refine ⟨fun i m σ2 H2 => i + m = us.length ∧ P i ∧ OK K He G H2 σ2 (I i), ⟨us.length, by omega, p0, G, (OKG.ground ok1).weak h0⟩, fun i m σ2 H2 ⟨em, pi, G2, ok2⟩ => ?_⟩
  obtain ⟨j1, j2, j3⟩ := jis H2 (ok2.ge.trans ok2.gh)
  rcases Nat.lt_or_ge i us.length with hlt | hge
  · have hy : i < ys.length := by omega
    have ey : ys[i]? = some ys[i] := List.getElem?_eq_getElem hy
    have ex : (ys.map h)[i]? = some (h ys[i]) := by rw [List.getElem?_map, ey]; rfl
    obtain ⟨v, ev, rv⟩ := r1.get ex
    refine .inr ⟨j1 i hlt, fun σ3 H3 => P (i + 1) ∧ OK K He G H3 σ3 (I (i + 1)), fun σ3 H3 k3 => ⟨m - 1, by omega, by omega, k3⟩, fun x H3 hx => ?_⟩
    obtain ⟨e3, e4⟩ := j2 i x H3 hx
    subst e3
    have exv : x = v := Option.some.inj ((e4 hlt).symm.trans ev)
    subst exv
    obtain ⟨δ2, kt, kb⟩ := k i ys[i] ey pi
    refine kt He G H3 G2 [] [] σ2 x rfl ok2 (rv.mono ok2.ge) _ fun σ3 ok3 => ?_
    refine kb He G H3 σ3 _ ⟨G2, ok3⟩ ?_ ?_ ?_ ?_ ?_
    · exact fun δ' σ' H' ⟨G', k'⟩ ⟨p, w⟩ => ⟨p, G', k'.weak w⟩
    · exact fun v s σ' δ' H' ⟨G', k'⟩ w => r v s σ' δ' H' ⟨G', ok1.unground k'⟩ w
    · exact fun δ' σ' H' ⟨G', k'⟩ w => nx δ' σ' H' ⟨G', ok1.unground k'⟩ w
    · exact fun δ' σ' H' ⟨G', k'⟩ ⟨p, w⟩ => ⟨p, G', k'.weak w⟩
    · exact fun c fs cls d G' σ' δ' H' k' k2 w => xx c fs cls d G' σ' δ' H' (ok1.unground k') k2 w
  · have e : i = ys.length := by omega
    subst e
    exact .inl ⟨j3 _ hge, nx _ _ _ ⟨G2, ok1.unground ok2⟩ (hd pi)⟩
theorem sd_rng2P {m n : Int} {tr : TA} {g : TG} {tb : TS} (P : Nat → Prop) (p0 : P 0) (he : EA K tr δ [.int m, .int n]) (h1 : -(2 ^ 62) ≤ m ∧ m < 2 ^ 62 ∧ -(2 ^ 62) ≤ n ∧ n < 2 ^ 62) (I : Nat → List S) (h0 : weak δ (I 0))
    (k : ∀ i : Nat, m + (i : Int) < n → P i → ∃ δ2, ET K g (I i) (.int (m + (i : Int))) δ2 ∧ SD K E tb δ2 (fun δ' => P (i + 1) ∧ weak δ' (I (i + 1))) R N (fun δ' => P (i + 1) ∧ weak δ' (I (i + 1))) X) (hd : P (n - m).toNat → N (I (n - m).toNat)) : SD K E (tFor (iRngU2 tr) g tb) δ N R B C X := by
  refine sd_forP (ys := List.range (n - m).toNat) (h := fun (i : Nat) => D.int (m + (i : Int))) P p0 (ei_rngU2 he h1) I h0 (fun i y hy pi => ?_) (by rw [List.length_range]; exact hd)
  obtain ⟨q, rfl⟩ := range_get hy
  exact k y (by omega) pi
theorem sd_rng1P {n : Int} {tr : TA} {g : TG} {tb : TS} (P : Nat → Prop) (p0 : P 0) (he : EA K tr δ [.int n]) (h1 : -(2 ^ 62) ≤ n) (h2 : n < 2 ^ 62) (I : Nat → List S) (h0 : weak δ (I 0))
    (k : ∀ i : Nat, (i : Int) < n → P i → ∃ δ2, ET K g (I i) (.int (i : Int)) δ2 ∧ SD K E tb δ2 (fun δ' => P (i + 1) ∧ weak δ' (I (i + 1))) R N (fun δ' => P (i + 1) ∧ weak δ' (I (i + 1))) X) (hd : P n.toNat → N (I n.toNat)) : SD K E (tFor (iRngU1 tr) g tb) δ N R B C X := by
  refine sd_forP (ys := List.range n.toNat) (h := fun (i : Nat) => D.int (i : Int)) P p0 (ei_is (ei_rngU1 he h1 h2) (rg0 _)) I h0 (fun i y hy pi => ?_) (by rw [List.length_range]; exact hd)
  obtain ⟨q, rfl⟩ := range_get hy
  exact k y (by omega) pi
end
end Far
namespace Far
open PySem L2
structure Zs where
  FarError : Addr
  NoSpan : Addr
  NoValue : Addr
  NoPlace : Addr
  NoCount : Addr
  NoWheel : Addr
  NoRow : Addr
  TooMany : Addr
  NoText : Addr
  Wheel : Addr
class ZF (K : PySem.W.Frag) (Z : Zs) : Prop where
  exc_NoPlace : ExcC K Z.NoPlace
  exm_NoPlace_FarError : PySem.W.exmOne K (.ref Z.NoPlace) (.ref Z.FarError) = some true
  kit_NoPlace_NoSpan : PySem.W.kitOne K (.ref Z.NoPlace) (.ref Z.NoSpan) = some false
  kit_NoPlace_NoValue : PySem.W.kitOne K (.ref Z.NoPlace) (.ref Z.NoValue) = some false
  kit_NoPlace_NoPlace : PySem.W.kitOne K (.ref Z.NoPlace) (.ref Z.NoPlace) = some true
  kit_NoPlace_NoCount : PySem.W.kitOne K (.ref Z.NoPlace) (.ref Z.NoCount) = some false
  kit_NoPlace_NoWheel : PySem.W.kitOne K (.ref Z.NoPlace) (.ref Z.NoWheel) = some false
  kit_NoPlace_NoRow : PySem.W.kitOne K (.ref Z.NoPlace) (.ref Z.NoRow) = some false
  kit_NoPlace_NoText : PySem.W.kitOne K (.ref Z.NoPlace) (.ref Z.NoText) = some false
  kit_NoPlace_TooMany : PySem.W.kitOne K (.ref Z.NoPlace) (.ref Z.TooMany) = some false
  kit_NoPlace_ValueError : PySem.W.kitOne K (.ref Z.NoPlace) (.type "ValueError") = some true
  exc_NoWheel : ExcC K Z.NoWheel
  exm_NoWheel_FarError : PySem.W.exmOne K (.ref Z.NoWheel) (.ref Z.FarError) = some true
  kit_NoWheel_NoSpan : PySem.W.kitOne K (.ref Z.NoWheel) (.ref Z.NoSpan) = some false
  kit_NoWheel_NoValue : PySem.W.kitOne K (.ref Z.NoWheel) (.ref Z.NoValue) = some false
  kit_NoWheel_NoPlace : PySem.W.kitOne K (.ref Z.NoWheel) (.ref Z.NoPlace) = some false
  kit_NoWheel_NoCount : PySem.W.kitOne K (.ref Z.NoWheel) (.ref Z.NoCount) = some false
  kit_NoWheel_NoWheel : PySem.W.kitOne K (.ref Z.NoWheel) (.ref Z.NoWheel) = some true
  kit_NoWheel_NoRow : PySem.W.kitOne K (.ref Z.NoWheel) (.ref Z.NoRow) = some false
  kit_NoWheel_NoText : PySem.W.kitOne K (.ref Z.NoWheel) (.ref Z.NoText) = some false
  kit_NoWheel_TooMany : PySem.W.kitOne K (.ref Z.NoWheel) (.ref Z.TooMany) = some false
  kit_NoWheel_ValueError : PySem.W.kitOne K (.ref Z.NoWheel) (.type "ValueError") = some true
  ins_Wheel : InsC K Z.Wheel
  na_Wheel_ring : NoAttr K Z.Wheel "ring"
/-! ### spans -/
abbrev isPl (x : D) : Bool := isTy x "int" && !isTy x "bool"
abbrev dE : Option Int → D
  | none => .non
  | some i => .int i
abbrev dS (s : Option Int × Option Int) : D := .tup [dE s.1, dE s.2]
abbrev isE (x : D) : Bool := isNon x || isPl x
def leE : D → D → Bool
  | .int i, .int j => decide (i ≤ j)
  | _, _ => true
def isSp : D → Bool
  | .tup [a, b] => isE a && isE b && leE a b
  | _ => false
def knownAll : D → Bool
  | .tup xs => xs.all known
  | .lst xs => xs.all known
  | x => known x
def hasS (s : Option Int × Option Int) (p : Int) : Bool := (match s.1 with | none => true | some a => decide (a ≤ p)) && (match s.2 with | none => true | some b => decide (p ≤ b))
def sizeS (s : Option Int × Option Int) : Option Int := match s.1, s.2 with | some a, some b => some (b - a + 1) | _, _ => none
def maxE : Option Int → Option Int → Option Int
  | none, b => b
  | a, none => a
  | some a, some b => some (max a b)
def minE : Option Int → Option Int → Option Int
  | none, b => b
  | a, none => a
  | some a, some b => some (min a b)
def comS (s t : Option Int × Option Int) : Option (Option Int × Option Int) :=
  let a := maxE s.1 t.1
  let b := minE s.2 t.2
  match a, b with
  | some i, some j => if j < i then none else some (a, b)
  | _, _ => some (a, b)
abbrev dO : Option (Option Int × Option Int) → D
  | none => .non
  | some s => dS s
/-! ### the law's own -/
def cell (ns : List Int) (k : Int) : Int :=
  let c := match ns with | [] => 7919 * k + 11 | _ => (ns.getD (k % ns.length).toNat 0 * 48271 + 104729 * k) + k / ns.length * 7919
  let m := c % 2147483647
  let m := m * m % 2147483629
  (m * m + 69621 * m + k) % 2147483587
abbrev scrD (ns : List Int) : D := .scr (ns.map .int)
theorem cell_pos (ns : List Int) (k : Int) : 0 ≤ cell ns k ∧ cell ns k < 2147483587 := by
  unfold cell
  exact ⟨Int.emod_nonneg _ (by decide), Int.emod_lt_of_pos _ (by decide)⟩
def farS (c : Int) (m : Int) : Nat → Int
  | 0 => 1
  | n + 1 => farS c m n * (c + n) % m
def placeL (c : Int) : List Int := [c / 6 % 21 - 10, c / 6 % 21 - 10, c / 6 % 201 - 100, farS c (10 ^ 30) 4, -farS c (10 ^ 30) 4, 0]
def place (c : Int) : Int := (placeL c).getD (c % 6).toNat 0
/-! ### values, wheels -/
abbrev vsD (ring : List (Option Int)) : List D := ring.map dE
def areV (x : D) (f : Int) : Bool := match x with
  | .tup ys => decide (f ≤ ys.length) && decide (ys.length ≤ 4000) && ys.all isE
  | .lst ys => decide (f ≤ ys.length) && decide (ys.length ≤ 4000) && ys.all isE
  | _ => false
def tell (ring : List (Option Int)) (p : Int) : Option Int := ring.getD (p % ring.length).toNat none
/-- data of so many levels of lists and tuples over plain values -/
def flatI : D → Bool
  | .non => true | .bl _ => true | .int _ => true | _ => false
def plD : Nat → D → Bool
  | 0, x => flatI x
  | n + 1, x => flatI x || (match x with | .tup ys => decide (ys.length ≤ 1000000) && ys.all (plD n) | .lst ys => decide (ys.length ≤ 1000000) && ys.all (plD n) | _ => false)
def NoR : List D → Out → Prop := fun _ _ => False
def Rn_alike (n : Nat) (xs : List D) (out : Out) : Prop := ∃ x, xs = [x, x] ∧ plD n x = true ∧ out = .ret (.d (.bl true))
def prevR (R : Nat → List D → Out → Prop) : Nat → List D → Out → Prop
  | 0 => NoR
  | n + 1 => R n
def valueL (c : Int) : List (Option Int) := [none, some 0, some 1, some 5, some (-1), some (c / 10 % 40 - 20), some (farS c (10 ^ 60) 7), some (-farS c (10 ^ 60) 7), none, some 1]
def valueF (c : Int) : Option Int := (valueL c).getD (c % 10).toNat none
def fewL : List (Option Int) := [none, some 0, some 1, some 5]
def ringItem (ns : List Int) (k c j : Int) : Option Int :=
  if c / 108 % 3 / 2 = 0 then fewL.getD (cell ns (k + 1 + j) % (([2, 3, 4] : List Int).getD (c / 36 % 3).toNat 0)).toNat none else valueF (cell ns (k + 1 + j))
def ringN (c : Int) : Nat := (1 + c % (([3, 6, 12] : List Int).getD (c / 12 % 3).toNat 0)).toNat
def ringB (ns : List Int) (k : Int) (m : Nat) : List (Option Int) := (List.range m).map fun (j : Nat) => ringItem ns k (cell ns k) j
def ringK (c : Int) : Int := ([1, 1, 2, 3] : List Int).getD (c / 324 % 4).toNat 0
def ringF (ns : List Int) (k : Int) : List (Option Int) := (List.replicate (ringK (cell ns k)).toNat (ringB ns k (ringN (cell ns k)))).flatten
theorem ringK_cases (c : Int) : ringK c = 1 ∨ ringK c = 2 ∨ ringK c = 3 := by
  unfold ringK
  have h0 : 0 ≤ c / 324 % 4 := Int.emod_nonneg _ (by decide)
  have h1 : c / 324 % 4 < 4 := Int.emod_lt_of_pos _ (by decide)
  have : c / 324 % 4 = 0 ∨ c / 324 % 4 = 1 ∨ c / 324 % 4 = 2 ∨ c / 324 % 4 = 3 := by omega
  rcases this with e | e | e | e <;> rw [e] <;> simp
theorem pick3 (l : List Int) (i a b d : Int) (e : l = [a, b, d]) : l.getD (i % 3).toNat 0 = a ∨ l.getD (i % 3).toNat 0 = b ∨ l.getD (i % 3).toNat 0 = d := by
  have h0 : 0 ≤ i % 3 := Int.emod_nonneg _ (by decide)
  have h1 : i % 3 < 3 := Int.emod_lt_of_pos _ (by decide)
  have : i % 3 = 0 ∨ i % 3 = 1 ∨ i % 3 = 2 := by omega
  subst e
  rcases this with e | e | e <;> rw [e] <;> simp
theorem ringN_in (c : Int) : 1 ≤ ringN c ∧ ringN c ≤ 12 := by
  unfold ringN
  rcases pick3 [3, 6, 12] (c / 12) 3 6 12 rfl with e | e | e <;> rw [e] <;> omega
theorem ringF_len (ns : List Int) (k : Int) : (ringF ns k).length = (ringK (cell ns k)).toNat * ringN (cell ns k) := by
  unfold ringF ringB
  simp
theorem ringF_in (ns : List Int) (k : Int) : 1 ≤ (ringF ns k).length ∧ (ringF ns k).length ≤ 36 := by
  rw [ringF_len]
  have h := ringN_in (cell ns k)
  rcases ringK_cases (cell ns k) with e | e | e <;> rw [e] <;> simp <;> omega
theorem ringF_ne (ns : List Int) (k : Int) : ringF ns k ≠ [] := fun e => by have := ringF_in ns k; rw [e] at this; simp at this
/-! ### the fewest values that tell the same -/
def fitsR (r : List (Option Int)) (m : Nat) : Bool := decide (r.length % m = 0) && decide (r = (List.replicate (r.length / m) (r.take m)).flatten)
def leastN (r : List (Option Int)) : Nat := (((List.range r.length).find? fun i => fitsR r (i + 1)).map (· + 1)).getD r.length
def leastR (r : List (Option Int)) : List (Option Int) := r.take (leastN r)
theorem fitsR_self {r : List (Option Int)} (h : r ≠ []) : fitsR r r.length = true := by
  have hl : 0 < r.length := List.length_pos_iff.mpr h
  unfold fitsR
  rw [Nat.mod_self, Nat.div_self hl]
  simp
theorem find_first {p : Nat → Bool} {n i : Nat} (hi : i < n) (h : p i = true) (hn : ∀ j, j < i → p j = false) : (List.range n).find? p = some i := by
  rw [List.find?_eq_some_iff_append]
  refine ⟨h, List.range i, (List.range' (i + 1) (n - i - 1)), ?_, fun a ha => ?_⟩
  · have e : n = i + (1 + (n - i - 1)) := by omega
    rw [List.range_eq_range', List.range_eq_range']
    conv => lhs; rw [e]
    rw [← List.range'_append_1, ← List.range'_append_1]
    simp
  · have := List.mem_range.mp ha
    rw [hn a this]; rfl
theorem leastN_eq {r : List (Option Int)} {i : Nat} (hi : i < r.length) (h : fitsR r (i + 1) = true) (hn : ∀ j, j < i → fitsR r (j + 1) = false) : leastN r = i + 1 := by
  unfold leastN
  rw [find_first (p := fun i => fitsR r (i + 1)) hi h hn]; rfl
theorem leastR_all {r : List (Option Int)} (hne : r ≠ []) (hn : ∀ j, j < r.length - 1 → fitsR r (j + 1) = false) : leastR r = r := by
  have hl : 0 < r.length := List.length_pos_iff.mpr hne
  have e : leastN r = r.length - 1 + 1 := leastN_eq (i := r.length - 1) (by omega) (by rw [Nat.sub_add_cancel hl]; exact fitsR_self hne) hn
  unfold leastR
  rw [e, Nat.sub_add_cancel hl, List.take_length]
theorem leastN_in {r : List (Option Int)} (hne : r ≠ []) : 1 ≤ leastN r ∧ leastN r ≤ r.length ∧ fitsR r (leastN r) = true := by
  have hl : 0 < r.length := List.length_pos_iff.mpr hne
  unfold leastN
  cases h : (List.range r.length).find? fun i => fitsR r (i + 1) with
  | none =>
    have := List.find?_eq_none.mp h (r.length - 1) (List.mem_range.mpr (by omega))
    rw [Nat.sub_add_cancel hl, fitsR_self hne] at this
    exact absurd rfl this
  | some i =>
    have h1 := List.find?_some h
    have h2 := List.mem_range.mp (List.mem_of_find?_eq_some h)
    exact ⟨by simp, by simp; omega, by simpa using h1⟩
theorem leastR_len {r : List (Option Int)} (hne : r ≠ []) : (leastR r).length = leastN r := by
  have := leastN_in hne
  unfold leastR; rw [List.length_take]; omega
theorem leastR_ne {r : List (Option Int)} (hne : r ≠ []) : leastR r ≠ [] := fun e => by
  have h := leastR_len hne
  have h2 := (leastN_in hne).1
  rw [e] at h; simp at h; omega
theorem leastR_le {r : List (Option Int)} (hne : r ≠ []) : (leastR r).length ≤ r.length := by rw [leastR_len hne]; exact (leastN_in hne).2.1
/-- what comes round after m values is told by the first m -/
theorem rep_get {α : Type} (t : List α) (k i : Nat) (hm : 0 < t.length) (hi : i < k * t.length) : (List.replicate k t).flatten[i]? = t[i % t.length]? := by
  induction k generalizing i with
  | zero => omega
  | succ k ih =>
    rw [List.replicate_succ, List.flatten_cons]
    rcases Nat.lt_or_ge i t.length with h | h
    · rw [List.getElem?_append_left h, Nat.mod_eq_of_lt h]
    · rw [List.getElem?_append_right h, ih (i - t.length) (by rw [Nat.add_mul] at hi; omega), ← Nat.mod_eq_sub_mod h]
theorem fits_tell {r : List (Option Int)} {m : Nat} (hm : 0 < m) (hr : r ≠ []) (h : fitsR r m = true) (p : Int) : tell (r.take m) p = tell r p := by
  unfold fitsR at h
  rw [Bool.and_eq_true, decide_eq_true_eq, decide_eq_true_eq] at h
  obtain ⟨h1, h2⟩ := h
  have hl : 0 < r.length := List.length_pos_iff.mpr hr
  have hmr : m ≤ r.length := Nat.le_of_dvd hl (Nat.dvd_of_mod_eq_zero h1)
  have tl : (r.take m).length = m := by rw [List.length_take]; omega
  obtain ⟨q, hq⟩ := Nat.dvd_of_mod_eq_zero h1
  have hd : r.length / m = q := by rw [hq, Nat.mul_div_cancel_left _ hm]
  unfold tell
  rw [tl]
  have p0 : 0 ≤ p % (r.length : Int) := Int.emod_nonneg _ (by omega)
  have p1 : p % (r.length : Int) < r.length := Int.emod_lt_of_pos _ (by omega)
  obtain ⟨i, hi⟩ : ∃ i : Nat, p % (r.length : Int) = i := ⟨(p % (r.length : Int)).toNat, by omega⟩
  have hil : i < r.length := by omega
  have e1 : p % (m : Int) = ((i % m : Nat) : Int) := by
    have : p % (m : Int) = (p % (r.length : Int)) % (m : Int) := by
      rw [hq]; push_cast
      exact (Int.emod_emod_of_dvd p ⟨(q : Int), rfl⟩).symm
    rw [this, hi]; exact (Int.natCast_emod i m).symm
  rw [e1, hi, Int.toNat_natCast, Int.toNat_natCast, List.getD_eq_getElem?_getD, List.getD_eq_getElem?_getD]
  congr 1
  have e2 : r[i]? = (List.replicate (r.length / m) (r.take m)).flatten[i]? := congrArg (fun l => l[i]?) h2
  rw [e2, rep_get _ _ _ (by rw [tl]; exact hm) (by rw [tl, hd, Nat.mul_comm, ← hq]; exact hil), tl]
theorem least_tell {r : List (Option Int)} (hr : r ≠ []) (p : Int) : tell (leastR r) p = tell r p := fits_tell (leastN_in hr).1 hr (leastN_in hr).2.2 p
/-- moved, mirrored -/
def movedV (r : List (Option Int)) (by_ : Int) : List (Option Int) := (List.range r.length).map fun (i : Nat) => tell r ((i : Int) - by_)
def mirrV (r : List (Option Int)) (ab : Int) : List (Option Int) := (List.range r.length).map fun (i : Nat) => tell r (ab - (i : Int))
theorem leastN_le {r : List (Option Int)} {m : Nat} (hm : 1 ≤ m) (hr : m ≤ r.length) (h : fitsR r m = true) : leastN r ≤ m := by
  unfold leastN
  cases e : (List.range r.length).find? fun i => fitsR r (i + 1) with
  | none =>
    have := List.find?_eq_none.mp e (m - 1) (List.mem_range.mpr (by omega))
    rw [Nat.sub_add_cancel hm, h] at this
    exact absurd rfl this
  | some i =>
    show i + 1 ≤ m
    rcases Nat.lt_or_ge m (i + 1) with z | z
    · obtain ⟨_, as, bs, he, hno⟩ := List.find?_eq_some_iff_append.mp e
      have hl : as.length = i := by
        have h1 : (List.range r.length)[as.length]? = some i := by rw [he, List.getElem?_append_right (Nat.le_refl _), Nat.sub_self]; rfl
        have h2 := (List.getElem?_eq_some_iff.mp h1).2
        rw [List.getElem_range] at h2; exact h2
      have h3 : (List.range r.length)[m - 1]? = some (m - 1) := List.getElem?_range (by omega)
      rw [he, List.getElem?_append_left (by omega)] at h3
      have := hno _ (List.mem_of_getElem? h3)
      rw [Nat.sub_add_cancel hm, h] at this
      simp at this
    · exact z
theorem fits_count {r : List (Option Int)} {m : Nat} (h : fitsR r m = true) (x : Option Int) : r.count x = r.length / m * (r.take m).count x := by
  unfold fitsR at h
  rw [Bool.and_eq_true, decide_eq_true_eq, decide_eq_true_eq] at h
  have e : ∀ (k : Nat) (t : List (Option Int)), (List.replicate k t).flatten.count x = k * t.count x := fun k t => by
    induction k with
    | zero => simp
    | succ k ih => rw [List.replicate_succ, List.flatten_cons, List.count_append, ih, Nat.add_mul, Nat.one_mul, Nat.add_comm]
  have := congrArg (List.count x) h.2
  rw [e] at this
  exact this
theorem fits_dvd {r : List (Option Int)} {m : Nat} (h : fitsR r m = true) : r.length % m = 0 := by
  unfold fitsR at h
  rw [Bool.and_eq_true, decide_eq_true_eq] at h
  exact h.1
/-- one odd value: nothing less tells the same -/
theorem least_one {r : List (Option Int)} {x : Option Int} (hne : r ≠ []) (hc : r.count x = 1) : leastR r = r := by
  obtain ⟨h1, h2, h3⟩ := leastN_in hne
  have hd := fits_count h3 x
  rw [hc] at hd
  have hk : r.length / leastN r = 1 := Nat.eq_one_of_mul_eq_one_right hd.symm
  obtain ⟨q, hq⟩ := Nat.dvd_of_mod_eq_zero (fits_dvd h3)
  rw [hq, Nat.mul_div_cancel_left _ (by omega)] at hk
  rw [hk, Nat.mul_one] at hq
  unfold leastR
  rw [← hq, List.take_length]
theorem least_two {t : List (Option Int)} {x : Option Int} (hne : t ≠ []) (hc : t.count x = 1) : leastR (t ++ t) = t := by
  have hl : 0 < t.length := List.length_pos_iff.mpr hne
  have hne2 : t ++ t ≠ [] := fun z => hne (List.append_eq_nil_iff.mp z).1
  have hL : (t ++ t).length = 2 * t.length := by rw [List.length_append]; omega
  have hf : fitsR (t ++ t) t.length = true := by
    unfold fitsR
    rw [hL, Nat.mul_mod_left, Nat.mul_div_cancel _ hl]
    simp [List.replicate_succ]
  obtain ⟨h1, h2, h3⟩ := leastN_in hne2
  have hle := leastN_le (by omega) (by omega) hf
  have hd := fits_count h3 x
  rw [List.count_append, hc] at hd
  obtain ⟨q, hq⟩ := Nat.dvd_of_mod_eq_zero (fits_dvd h3)
  have hk : (t ++ t).length / leastN (t ++ t) = q := by rw [hq, Nat.mul_div_cancel_left _ (by omega)]
  rw [hk] at hd
  have hq2 : q = 1 ∨ q = 2 := by
    have : q ∣ 2 := ⟨_, hd⟩
    have := Nat.le_of_dvd (by omega) this
    have : q ≠ 0 := fun z => by rw [z] at hd; omega
    omega
  have e : leastN (t ++ t) = t.length := by
    rcases hq2 with rfl | rfl
    · omega
    · omega
  unfold leastR
  rw [e, List.take_left']
  rfl
def wholeV (a : Nat) : List (Option Int) := List.replicate a (some 0) ++ [some 1] ++ List.replicate (3998 - a) (some 0)
def halfV (a : Nat) : List (Option Int) := List.replicate a (some 5) ++ [none] ++ List.replicate (1999 - a) (some 5)
theorem whole_least (a : Nat) : leastR (wholeV a) = wholeV a := least_one (x := some 1) (by unfold wholeV; simp) (by unfold wholeV; simp [List.count_replicate])
theorem half_least (a : Nat) : leastR (halfV a ++ halfV a) = halfV a := least_two (x := none) (by unfold halfV; simp) (by unfold halfV; simp [List.count_replicate])
def R_is_place (xs : List D) (out : Out) : Prop := ∃ x, xs = [x] ∧ known x = true ∧ out = .ret (.d (.bl (isPl x)))
def R_is_value (xs : List D) (out : Out) : Prop := ∃ x, xs = [x] ∧ known x = true ∧ out = .ret (.d (.bl (isE x)))
def R_are_values (xs : List D) (out : Out) : Prop := ∃ x f, xs = [x, .int f] ∧ known x = true ∧ knownAll x = true ∧ out = .ret (.d (.bl (areV x f)))
abbrev wheelD (Z : Zs) (ring : List (Option Int)) : D := .ins Z.Wheel [("ring", .tup (vsD ring))]
def R_Wheel_init (Z : Zs) (xs : List D) (out : Out) : Prop := ∃ x, xs = [x] ∧ known x = true ∧ knownAll x = true ∧
  ((∃ ring : List (Option Int), ring ≠ [] ∧ ring.length ≤ 4000 ∧ (x = .tup (vsD ring) ∨ x = .lst (vsD ring)) ∧ out = .ret (.d (wheelD Z ring))) ∨ (areV x 1 = false ∧ out = .exc Z.NoWheel []))
def R_need_place (Z : Zs) (xs : List D) (out : Out) : Prop := ∃ x, xs = [x] ∧ known x = true ∧ ((isPl x = true ∧ out = .ret (.d .non)) ∨ (isPl x = false ∧ out = .exc Z.NoPlace []))
def R_Wheel_tells (Z : Zs) (xs : List D) (out : Out) : Prop := ∃ ring p, xs = [wheelD Z ring, .int p] ∧ ring ≠ [] ∧ ring.length ≤ 4000 ∧ out = .ret (.d (dE (tell ring p)))
def R_least_round (xs : List D) (out : Out) : Prop := ∃ r, xs = [.tup (vsD r)] ∧ r ≠ [] ∧ r.length ≤ 4000 ∧ out = .ret (.d (.tup (vsD (leastR r))))
def R_least_wheel (Z : Zs) (xs : List D) (out : Out) : Prop := ∃ r, xs = [wheelD Z r] ∧ r ≠ [] ∧ r.length ≤ 4000 ∧ out = .ret (.d (wheelD Z (leastR r)))
def R_same_wheels (Z : Zs) (xs : List D) (out : Out) : Prop := ∃ r s, xs = [wheelD Z r, wheelD Z s] ∧ r ≠ [] ∧ r.length ≤ 4000 ∧ s ≠ [] ∧ s.length ≤ 4000 ∧ out = .ret (.d (.bl (decide (leastR r = leastR s))))
def R_moved_wheel (Z : Zs) (xs : List D) (out : Out) : Prop := ∃ r x, xs = [wheelD Z r, x] ∧ r ≠ [] ∧ r.length ≤ 4000 ∧ known x = true ∧ ((∃ b, x = .int b ∧ out = .ret (.d (wheelD Z (leastR (movedV r b))))) ∨ (isPl x = false ∧ out = .exc Z.NoPlace []))
def R_mirrored_wheel (Z : Zs) (xs : List D) (out : Out) : Prop := ∃ r x, xs = [wheelD Z r, x] ∧ r ≠ [] ∧ r.length ≤ 4000 ∧ known x = true ∧ ((∃ b, x = .int b ∧ out = .ret (.d (wheelD Z (leastR (mirrV r b))))) ∨ (isPl x = false ∧ out = .exc Z.NoPlace []))
def R_l_cell (xs : List D) (out : Out) : Prop := ∃ ns k, xs = [scrD ns, .int k] ∧ ns.length ≤ 63 ∧ out = .ret (.d (.int (cell ns k)))
def R_l_value (xs : List D) (out : Out) : Prop := ∃ c, xs = [.int c] ∧ 0 ≤ c ∧ c < 2147483587 ∧ out = .ret (.d (dE (valueF c)))
def R_l_place (xs : List D) (out : Out) : Prop := ∃ c, xs = [.int c] ∧ 0 ≤ c ∧ c < 2147483587 ∧ out = .ret (.d (.int (place c)))
def R_l_ring (xs : List D) (out : Out) : Prop := ∃ ns k, xs = [scrD ns, .int k] ∧ ns.length ≤ 63 ∧ out = .ret (.d (.tup (vsD (ringF ns k))))
def R_l_least (xs : List D) (out : Out) : Prop := ∃ r, xs = [.tup (vsD r)] ∧ r ≠ [] ∧ r.length ≤ 4000 ∧ out = .ret (.d (.tup (vsD (leastR r))))
def R_l_round (xs : List D) (out : Out) : Prop := ∃ ring p, xs = [.tup (vsD ring), .int p] ∧ ring ≠ [] ∧ ring.length ≤ 4000 ∧ out = .ret (.d (dE (tell ring p)))
def Rn_l_alike : Nat → List D → Out → Prop := Rn_alike
def R_l_alike : List D → Out → Prop := Rn_alike 2
def R_l_refusal (Z : Zs) (xs : List D) (out : Out) : Prop := xs = [.exc Z.NoPlace []] ∧ out = .ret (.d (.str "place"))
def R_l_refused (xs : List D) (out : Out) : Prop := ∃ w r x, xs = [.int w, .tup (vsD r), x] ∧ r ≠ [] ∧ r.length ≤ 4000 ∧ known x = true ∧ isPl x = false ∧ out = .ret (.d (.bl true))
def R_l_same_right (xs : List D) (out : Out) : Prop := ∃ r s, xs = [.tup (vsD r), .tup (vsD s)] ∧ r ≠ [] ∧ r.length ≤ 4000 ∧ s ≠ [] ∧ s.length ≤ 4000 ∧ out = .ret (.d (.bl true))
def R_l_great_right (xs : List D) (out : Out) : Prop := ∃ c, xs = [.int c] ∧ 0 ≤ c ∧ c < 2147483587 ∧ out = .ret (.d (.bl true))
def R_law (xs : List D) (out : Out) : Prop := ∃ ns : List Int, xs = [scrD ns] ∧ ns.length ≤ 63 ∧ out = .ret (.d (.bl true))
end Far
namespace Far
open PySem L2
def N_is_place : List Str := ["thing"]
def t_is_place (K : PySem.W.Frag) : TS :=
  (tRet (tAndT K (tCB (rIsU K) (tCons (tVar 0) (tCons (tC (.ty "int")) tNil))) (tNotT K (tCB (rIsU K) (tCons (tVar 0) (tCons (tC (.ty "bool")) tNil))))))
def N_is_value : List Str := ["thing"]
def t_is_value (K : PySem.W.Frag) : TS :=
  (tRet (tOrT K (tOp (rIsN) (tVar 0) (tC .non)) (tCall (spD K R_is_place) [] E0 (tCons (tVar 0) tNil))))
def N_are_values : List Str := ["things", "fewest", "thing"]
def t_are_values (K : PySem.W.Frag) : TS :=
  (tSeq (tIfS (tOr (tNot (tTru K (tCB (rIsU K) (tCons (tVar 0) (tCons (tTup (tCons (tC (.ty "tuple")) (tCons (tC (.ty "list")) tNil))) tNil))))) (tNot (tTest (tChain (rI0 fun i j => .bl (decide (i ≤ j))) (rI0 fun i j => .bl (decide (i ≤ j))) (tVar 1) (tCB (rLenU K) (tCons (tVar 0) tNil)) (tC (.int 4000))))))
  (tRet (tC (.bl false)))
  tNext)
  (tRet (tCB (rAll K) (tCons (tLc (iSeq K (tVar 0)) (gName 2) tYes (tCall (spD K R_is_value) [] E0 (tCons (tVar 2) tNil)) [2]) tNil))))
def N_Wheel_init : List Str := ["self", "values"]
def t_Wheel_init (K : PySem.W.Frag) (Z : Zs) (W : WX) : TS :=
  (tSeq (tIfS (tNot (tTru K (tCall (spD K R_are_values) [] E0 (tCons (tVar 1) (tCons (tC (.int 1)) tNil)))))
  (tRaise Z.NoWheel W)
  tNext)
  (sFld K (tVar 0) (tCB (rTupU K) (tCons (tVar 1) tNil)) "ring"))
def N_need_place : List Str := ["thing"]
def t_need_place (K : PySem.W.Frag) (Z : Zs) (W : WX) : TS :=
  (tIfS (tNot (tTru K (tCall (spD K R_is_place) [] E0 (tCons (tVar 0) tNil))))
  (tRaise Z.NoPlace W)
  tNext)
def N_Wheel_tells : List Str := ["self", "place"]
def t_Wheel_tells (K : PySem.W.Frag) : TS :=
  (tRet (tOp (rIx K) (tFld K (tVar 0) "ring") (tOp (rI (fun _ j => 0 < j) fun i j => .int (i % j)) (tVar 1) (tCB (rLenU K) (tCons (tFld K (tVar 0) "ring") tNil)))))
def N_least_round : List Str := ["values", "many"]
def t_least_round (K : PySem.W.Frag) : TS :=
  (tSeq (tFor (iRngU2 (tCons (tC (.int 1)) (tCons (tCB (rLenU K) (tCons (tVar 0) tNil)) tNil))) (gName 1)
  (tIfS (tAnd (tTest (tOp (rEqU K) (tOp (rI (fun _ j => 0 < j) fun i j => .int (i % j)) (tCB (rLenU K) (tCons (tVar 0) tNil)) (tVar 1)) (tC (.int 0)))) (tTest (tOp (rEqU K) (tVar 0) (tOp (rMulU K) (tSl (rSlU K) (tVar 0) tNoPart (tPart (tVar 1))) (tOp (rI CDivW fun i j => .int (i / j)) (tCB (rLenU K) (tCons (tVar 0) tNil)) (tVar 1))))))
  (tRet (tSl (rSlU K) (tVar 0) tNoPart (tPart (tVar 1))))
  tNext))
  (tRet (tVar 0)))
def N_least_wheel : List Str := ["wheel"]
def t_least_wheel (K : PySem.W.Frag) (Z : Zs) : TS :=
  (tRet (tMakeS Z.Wheel (spI K Z.Wheel (R_Wheel_init Z)) (fun _ => E0) (tCons (tCall (spD K R_least_round) [] E0 (tCons (tFld K (tVar 0) "ring") tNil)) tNil)))
def N_same_wheels : List Str := ["one", "other"]
def t_same_wheels (K : PySem.W.Frag) : TS :=
  (tRet (tOp (rEqU K) (tCall (spD K R_least_round) [] E0 (tCons (tFld K (tVar 0) "ring") tNil)) (tCall (spD K R_least_round) [] E0 (tCons (tFld K (tVar 1) "ring") tNil))))
def N_moved_wheel : List Str := ["wheel", "by", "place"]
def t_moved_wheel (K : PySem.W.Frag) (Z : Zs) (W : WX) : TS :=
  (tSeq (tDrop (tCallS (spD K (R_need_place Z)) (WE W) (tCons (tVar 1) tNil)))
  (tRet (tCall (spD K (R_least_wheel Z)) [] E0 (tCons (tMakeS Z.Wheel (spI K Z.Wheel (R_Wheel_init Z)) (WE W) (tCons (tLc (iRngU1 (tCons (tCB (rLenU K) (tCons (tFld K (tVar 0) "ring") tNil)) tNil)) (gName 2) tYes (tMethS Z.Wheel "tells" (spD K (R_Wheel_tells Z)) (fun _ => E0) (tVar 0) (tCons (tOp (rI0 fun i j => .int (i - j)) (tVar 2) (tVar 1)) tNil)) [2]) tNil)) tNil))))
def N_mirrored_wheel : List Str := ["wheel", "about", "place"]
def t_mirrored_wheel (K : PySem.W.Frag) (Z : Zs) (W : WX) : TS :=
  (tSeq (tDrop (tCallS (spD K (R_need_place Z)) (WE W) (tCons (tVar 1) tNil)))
  (tRet (tCall (spD K (R_least_wheel Z)) [] E0 (tCons (tMakeS Z.Wheel (spI K Z.Wheel (R_Wheel_init Z)) (WE W) (tCons (tLc (iRngU1 (tCons (tCB (rLenU K) (tCons (tFld K (tVar 0) "ring") tNil)) tNil)) (gName 2) tYes (tMethS Z.Wheel "tells" (spD K (R_Wheel_tells Z)) (fun _ => E0) (tVar 0) (tCons (tOp (rI0 fun i j => .int (i - j)) (tVar 1) (tVar 2)) tNil)) [2]) tNil)) tNil))))
def N_l_cell : List Str := ["_law_script", "_law_k", "_law_cell_here", "_law_more"]
def t_l_cell (K : PySem.W.Frag) : TS :=
  (tSeq (tAsg (tOp (rAddU K) (tOp (rMulU K) (tC (.int 7919)) (tVar 1)) (tC (.int 11))) (gName 2))
  (tSeq (tIfS (tTest (tOp (rNeU K) (tVar 0) (tLst tNil)))
  (tSeq (tAsg (tOp (rMulU K) (tOp (rIx K) (tVar 0) (tOp (rI (fun _ j => 0 < j) fun i j => .int (i % j)) (tVar 1) (tCB (rLenU K) (tCons (tVar 0) tNil)))) (tC (.int 48271))) (gName 2))
  (tAsg (tOp (rAddU K) (tOp (rAddU K) (tVar 2) (tOp (rMulU K) (tC (.int 104729)) (tVar 1))) (tOp (rMulU K) (tOp (rI CDivW fun i j => .int (i / j)) (tVar 1) (tCB (rLenU K) (tCons (tVar 0) tNil))) (tC (.int 7919)))) (gName 2)))
  tNext)
  (tSeq (tAsg (tOp (rI (fun _ j => 0 < j) fun i j => .int (i % j)) (tVar 2) (tC (.int 2147483647))) (gName 3))
  (tSeq (tAsg (tOp (rI (fun _ j => 0 < j) fun i j => .int (i % j)) (tOp (rMulU K) (tVar 3) (tVar 3)) (tC (.int 2147483629))) (gName 3))
  (tRet (tOp (rI (fun _ j => 0 < j) fun i j => .int (i % j)) (tOp (rAddU K) (tOp (rAddU K) (tOp (rMulU K) (tVar 3) (tVar 3)) (tOp (rMulU K) (tC (.int 69621)) (tVar 3))) (tVar 1)) (tC (.int 2147483587))))))))
def N_l_value : List Str := ["_law_cell_here", "_law_great", "_law_turn"]
def t_l_value (K : PySem.W.Frag) : TS :=
  (tSeq (tAsg (tC (.int 1)) (gName 1))
  (tSeq (tFor (iRngU1 (tCons (tC (.int 7)) tNil)) (gName 2)
  (tAsg (tOp (rI (fun _ j => 0 < j) fun i j => .int (i % j)) (tOp (rMulU K) (tVar 1) (tOp (rAddU K) (tVar 0) (tVar 2))) (tOp (rI CPow fun i j => .int (i ^ j.toNat)) (tC (.int 10)) (tC (.int 60)))) (gName 1)))
  (tRet (tOp (rIx K) (tLst (tCons (tC .non) (tCons (tC (.int 0)) (tCons (tC (.int 1)) (tCons (tC (.int 5)) (tCons (tUn (rU fun i => .int (-i)) (tC (.int 1))) (tCons (tOp (rI0 fun i j => .int (i - j)) (tOp (rI (fun _ j => 0 < j) fun i j => .int (i % j)) (tOp (rI CDivW fun i j => .int (i / j)) (tVar 0) (tC (.int 10))) (tC (.int 40))) (tC (.int 20))) (tCons (tVar 1) (tCons (tUn (rU fun i => .int (-i)) (tVar 1)) (tCons (tC .non) (tCons (tC (.int 1)) tNil))))))))))) (tOp (rI (fun _ j => 0 < j) fun i j => .int (i % j)) (tVar 0) (tC (.int 10)))))))
def N_l_place : List Str := ["_law_cell_here", "_law_far", "_law_turn"]
def t_l_place (K : PySem.W.Frag) : TS :=
  (tSeq (tAsg (tC (.int 1)) (gName 1))
  (tSeq (tFor (iRngU1 (tCons (tC (.int 4)) tNil)) (gName 2)
  (tAsg (tOp (rI (fun _ j => 0 < j) fun i j => .int (i % j)) (tOp (rMulU K) (tVar 1) (tOp (rAddU K) (tVar 0) (tVar 2))) (tOp (rI CPow fun i j => .int (i ^ j.toNat)) (tC (.int 10)) (tC (.int 30)))) (gName 1)))
  (tRet (tOp (rIx K) (tLst (tCons (tOp (rI0 fun i j => .int (i - j)) (tOp (rI (fun _ j => 0 < j) fun i j => .int (i % j)) (tOp (rI CDivW fun i j => .int (i / j)) (tVar 0) (tC (.int 6))) (tC (.int 21))) (tC (.int 10))) (tCons (tOp (rI0 fun i j => .int (i - j)) (tOp (rI (fun _ j => 0 < j) fun i j => .int (i % j)) (tOp (rI CDivW fun i j => .int (i / j)) (tVar 0) (tC (.int 6))) (tC (.int 21))) (tC (.int 10))) (tCons (tOp (rI0 fun i j => .int (i - j)) (tOp (rI (fun _ j => 0 < j) fun i j => .int (i % j)) (tOp (rI CDivW fun i j => .int (i / j)) (tVar 0) (tC (.int 6))) (tC (.int 201))) (tC (.int 100))) (tCons (tVar 1) (tCons (tUn (rU fun i => .int (-i)) (tVar 1)) (tCons (tC (.int 0)) tNil))))))) (tOp (rI (fun _ j => 0 < j) fun i j => .int (i % j)) (tVar 0) (tC (.int 6)))))))
def N_l_ring : List Str := ["_law_script", "_law_k", "_law_cell_here", "_law_few", "_law_found", "_law_j", "_law_more"]
def t_l_ring (K : PySem.W.Frag) : TS :=
  (tSeq (tAsg (tCall (spD K R_l_cell) [] E0 (tCons (tVar 0) (tCons (tVar 1) tNil))) (gName 2))
  (tSeq (tAsg (tLst (tCons (tC .non) (tCons (tC (.int 0)) (tCons (tC (.int 1)) (tCons (tC (.int 5)) tNil))))) (gName 3))
  (tSeq (tAsg (tLst tNil) (gName 4))
  (tSeq (tFor (iRngU1 (tCons (tOp (rAddU K) (tC (.int 1)) (tOp (rI (fun _ j => 0 < j) fun i j => .int (i % j)) (tVar 2) (tOp (rIx K) (tLst (tCons (tC (.int 3)) (tCons (tC (.int 6)) (tCons (tC (.int 12)) tNil)))) (tOp (rI (fun _ j => 0 < j) fun i j => .int (i % j)) (tOp (rI CDivW fun i j => .int (i / j)) (tVar 2) (tC (.int 12))) (tC (.int 3)))))) tNil)) (gName 5)
  (tSeq (tAsg (tCall (spD K R_l_cell) [] E0 (tCons (tVar 0) (tCons (tOp (rAddU K) (tOp (rAddU K) (tVar 1) (tC (.int 1))) (tVar 5)) tNil))) (gName 6))
  (tDrop (tBM K "list" rAppend (tVar 4) (tCons (tOp (rIx K) (tLst (tCons (tOp (rIx K) (tVar 3) (tOp (rI (fun _ j => 0 < j) fun i j => .int (i % j)) (tVar 6) (tOp (rIx K) (tLst (tCons (tC (.int 2)) (tCons (tC (.int 3)) (tCons (tC (.int 4)) tNil)))) (tOp (rI (fun _ j => 0 < j) fun i j => .int (i % j)) (tOp (rI CDivW fun i j => .int (i / j)) (tVar 2) (tC (.int 36))) (tC (.int 3)))))) (tCons (tCall (spD K R_l_value) [] E0 (tCons (tVar 6) tNil)) tNil))) (tOp (rI CDivW fun i j => .int (i / j)) (tOp (rI (fun _ j => 0 < j) fun i j => .int (i % j)) (tOp (rI CDivW fun i j => .int (i / j)) (tVar 2) (tC (.int 108))) (tC (.int 3))) (tC (.int 2)))) tNil)))))
  (tRet (tCB (rTupU K) (tCons (tOp (rMulU K) (tVar 4) (tOp (rIx K) (tLst (tCons (tC (.int 1)) (tCons (tC (.int 1)) (tCons (tC (.int 2)) (tCons (tC (.int 3)) tNil))))) (tOp (rI (fun _ j => 0 < j) fun i j => .int (i % j)) (tOp (rI CDivW fun i j => .int (i / j)) (tVar 2) (tC (.int 324))) (tC (.int 4))))) tNil)))))))
def N_l_least : List Str := ["_law_ring_here", "_law_many"]
def t_l_least (K : PySem.W.Frag) : TS :=
  (tSeq (tFor (iRngU2 (tCons (tC (.int 1)) (tCons (tOp (rAddU K) (tCB (rLenU K) (tCons (tVar 0) tNil)) (tC (.int 1))) tNil))) (gName 1)
  (tIfS (tAnd (tTest (tOp (rEqU K) (tOp (rI (fun _ j => 0 < j) fun i j => .int (i % j)) (tCB (rLenU K) (tCons (tVar 0) tNil)) (tVar 1)) (tC (.int 0)))) (tTest (tOp (rEqU K) (tVar 0) (tOp (rMulU K) (tSl (rSlU K) (tVar 0) tNoPart (tPart (tVar 1))) (tOp (rI CDivW fun i j => .int (i / j)) (tCB (rLenU K) (tCons (tVar 0) tNil)) (tVar 1))))))
  (tRet (tSl (rSlU K) (tVar 0) tNoPart (tPart (tVar 1))))
  tNext))
  (tRet (tVar 0)))
def N_l_round : List Str := ["_law_ring_here", "_law_place_here"]
def t_l_round (K : PySem.W.Frag) : TS :=
  (tRet (tOp (rIx K) (tVar 0) (tOp (rI0 fun i j => .int (i - j)) (tVar 1) (tOp (rMulU K) (tOp (rI CDivW fun i j => .int (i / j)) (tVar 1) (tCB (rLenU K) (tCons (tVar 0) tNil))) (tCB (rLenU K) (tCons (tVar 0) tNil))))))
def N_l_alike : List Str := ["_law_found", "_law_due", "_law_k"]
def t_l_alike (K : PySem.W.Frag) (RR : List D → Out → Prop) : TS :=
  (tSeq (tIfS (tTru K (tCB (rIsU K) (tCons (tVar 1) (tCons (tTup (tCons (tC (.ty "list")) (tCons (tC (.ty "tuple")) tNil))) tNil))))
  (tSeq (tIfS (tOr (tTest (tOp (rNeU K) (tCB (rIsU K) (tCons (tVar 0) (tCons (tC (.ty "tuple")) tNil))) (tCB (rIsU K) (tCons (tVar 1) (tCons (tC (.ty "tuple")) tNil))))) (tNot (tTru K (tCB (rIsU K) (tCons (tVar 0) (tCons (tTup (tCons (tC (.ty "list")) (tCons (tC (.ty "tuple")) tNil))) tNil))))))
  (tRet (tC (.bl false)))
  tNext)
  (tSeq (tIfS (tTest (tOp (rNeU K) (tCB (rLenU K) (tCons (tVar 0) tNil)) (tCB (rLenU K) (tCons (tVar 1) tNil))))
  (tRet (tC (.bl false)))
  tNext)
  (tRet (tCB (rAll K) (tCons (tLc (iRngU1 (tCons (tCB (rLenU K) (tCons (tVar 1) tNil)) tNil)) (gName 2) tYes (tCall (spD K RR) [] E0 (tCons (tOp (rIx K) (tVar 0) (tVar 2)) (tCons (tOp (rIx K) (tVar 1) (tVar 2)) tNil))) [2]) tNil)))))
  tNext)
  (tSeq (tIfS (tOr (tTest (tOp (rNeU K) (tCB (rIsU K) (tCons (tVar 0) (tCons (tC (.ty "bool")) tNil))) (tCB (rIsU K) (tCons (tVar 1) (tCons (tC (.ty "bool")) tNil))))) (tTest (tOp (rNeU K) (tOp (rIsN) (tVar 0) (tC .non)) (tOp (rIsN) (tVar 1) (tC .non)))))
  (tRet (tC (.bl false)))
  tNext)
  (tRet (tOp (rEqU K) (tVar 0) (tVar 1)))))
def N_l_refusal : List Str := ["_law_error", "_law_kinds"]
def t_l_refusal (K : PySem.W.Frag) (Z : Zs) : TS :=
  (tSeq (tAsg (tLst (tCons (tCB (rIsU K) (tCons (tVar 0) (tCons (tC (.ref Z.NoSpan)) tNil))) (tCons (tCB (rIsU K) (tCons (tVar 0) (tCons (tC (.ref Z.NoValue)) tNil))) (tCons (tCB (rIsU K) (tCons (tVar 0) (tCons (tC (.ref Z.NoPlace)) tNil))) tNil)))) (gName 1))
  (tSeq (tAsg (tOp (rAddU K) (tVar 1) (tLst (tCons (tCB (rIsU K) (tCons (tVar 0) (tCons (tC (.ref Z.NoCount)) tNil))) (tCons (tCB (rIsU K) (tCons (tVar 0) (tCons (tC (.ref Z.NoWheel)) tNil))) (tCons (tCB (rIsU K) (tCons (tVar 0) (tCons (tC (.ref Z.NoRow)) tNil))) tNil))))) (gName 1))
  (tSeq (tAsg (tOp (rAddU K) (tVar 1) (tLst (tCons (tCB (rIsU K) (tCons (tVar 0) (tCons (tC (.ref Z.NoText)) tNil))) (tCons (tCB (rIsU K) (tCons (tVar 0) (tCons (tC (.ref Z.TooMany)) tNil))) tNil)))) (gName 1))
  (tSeq (tIfS (tOr (tTest (tOp (rNeU K) (tBM K "list" (rCnt K) (tVar 1) (tCons (tC (.bl true)) tNil)) (tC (.int 1)))) (tNot (tTru K (tCB (rIsU K) (tCons (tVar 0) (tCons (tC (.ty "ValueError")) tNil))))))
  (tRet (tC (.str "another")))
  tNext)
  (tRet (tOp (rIx K) (tLst (tCons (tC (.str "span")) (tCons (tC (.str "value")) (tCons (tC (.str "place")) (tCons (tC (.str "count")) (tCons (tC (.str "wheel")) (tCons (tC (.str "row")) (tCons (tC (.str "text")) (tCons (tC (.str "many")) tNil))))))))) (tBM K "list" (rIndex K) (tVar 1) (tCons (tC (.bl true)) tNil))))))))
def N_l_refused : List Str := ["_law_way", "_law_ring_here", "_law_thing", "_law_error", "e"]
def t_l_refused (K : PySem.W.Frag) (Z : Zs) : TS :=
  (tSeq (tAsg (tC .non) (gName 3))
  (tSeq (tTryK K (.ref Z.FarError) 4 3 fun W =>
  (tIfS (tTest (tOp (rEqU K) (tVar 0) (tC (.int 0))))
  (tDrop (tCallS (spD K (R_moved_wheel Z)) (WE W) (tCons (tMakeS Z.Wheel (spI K Z.Wheel (R_Wheel_init Z)) (WE W) (tCons (tVar 1) tNil)) (tCons (tVar 2) tNil))))
  (tDrop (tCallS (spD K (R_mirrored_wheel Z)) (WE W) (tCons (tMakeS Z.Wheel (spI K Z.Wheel (R_Wheel_init Z)) (WE W) (tCons (tVar 1) tNil)) (tCons (tVar 2) tNil))))))
  (tRet (tAndT K (tOp (rNotN) (tVar 3) (tC .non)) (tOp (rEqU K) (tCall (spD K (R_l_refusal Z)) [] E0 (tCons (tVar 3) tNil)) (tC (.str "place")))))))
def N_l_same_right : List Str := ["_law_ring_here", "_law_other", "_law_due", "_law_found"]
def t_l_same_right (K : PySem.W.Frag) (Z : Zs) : TS :=
  (tSeq (tAsg (tOp (rEqU K) (tCall (spD K R_l_least) [] E0 (tCons (tVar 0) tNil)) (tCall (spD K R_l_least) [] E0 (tCons (tVar 1) tNil))) (gName 2))
  (tSeq (tAsg (tLst (tCons (tCall (spD K (R_same_wheels Z)) [] E0 (tCons (tMakeS Z.Wheel (spI K Z.Wheel (R_Wheel_init Z)) (fun _ => E0) (tCons (tVar 0) tNil)) (tCons (tMakeS Z.Wheel (spI K Z.Wheel (R_Wheel_init Z)) (fun _ => E0) (tCons (tVar 1) tNil)) tNil))) (tCons (tCall (spD K (R_same_wheels Z)) [] E0 (tCons (tMakeS Z.Wheel (spI K Z.Wheel (R_Wheel_init Z)) (fun _ => E0) (tCons (tVar 1) tNil)) (tCons (tMakeS Z.Wheel (spI K Z.Wheel (R_Wheel_init Z)) (fun _ => E0) (tCons (tVar 0) tNil)) tNil))) tNil))) (gName 3))
  (tRet (tCall (spD K R_l_alike) [] E0 (tCons (tVar 3) (tCons (tLst (tCons (tVar 2) (tCons (tVar 2) tNil))) tNil))))))
def N_l_great_right : List Str := ["_law_cell_here", "_law_at", "_law_whole", "_law_half", "_law_found"]
def t_l_great_right (K : PySem.W.Frag) (Z : Zs) : TS :=
  (tSeq (tAsg (tOp (rI (fun _ j => 0 < j) fun i j => .int (i % j)) (tVar 0) (tC (.int 3999))) (gName 1))
  (tSeq (tAsg (tCB (rTupU K) (tCons (tOp (rAddU K) (tOp (rAddU K) (tOp (rMulU K) (tLst (tCons (tC (.int 0)) tNil)) (tVar 1)) (tLst (tCons (tC (.int 1)) tNil))) (tOp (rMulU K) (tLst (tCons (tC (.int 0)) tNil)) (tOp (rI0 fun i j => .int (i - j)) (tC (.int 3998)) (tVar 1)))) tNil)) (gName 2))
  (tSeq (tAsg (tCB (rTupU K) (tCons (tOp (rAddU K) (tOp (rAddU K) (tOp (rMulU K) (tLst (tCons (tC (.int 5)) tNil)) (tOp (rI (fun _ j => 0 < j) fun i j => .int (i % j)) (tVar 1) (tC (.int 2000)))) (tLst (tCons (tC .non) tNil))) (tOp (rMulU K) (tLst (tCons (tC (.int 5)) tNil)) (tOp (rI0 fun i j => .int (i - j)) (tC (.int 1999)) (tOp (rI (fun _ j => 0 < j) fun i j => .int (i % j)) (tVar 1) (tC (.int 2000)))))) tNil)) (gName 3))
  (tSeq (tAsg (tLst (tCons (tFld K (tCall (spD K (R_least_wheel Z)) [] E0 (tCons (tMakeS Z.Wheel (spI K Z.Wheel (R_Wheel_init Z)) (fun _ => E0) (tCons (tVar 2) tNil)) tNil)) "ring") (tCons (tFld K (tCall (spD K (R_least_wheel Z)) [] E0 (tCons (tMakeS Z.Wheel (spI K Z.Wheel (R_Wheel_init Z)) (fun _ => E0) (tCons (tOp (rMulU K) (tVar 3) (tC (.int 2))) tNil)) tNil)) "ring") tNil))) (gName 4))
  (tRet (tCall (spD K R_l_alike) [] E0 (tCons (tVar 4) (tCons (tLst (tCons (tVar 2) (tCons (tVar 3) tNil))) tNil))))))))
def N_law : List Str := ["_law_script", "_law_k", "_law_cell_here", "_law_ring_here", "_law_wheel", "_law_at", "_law_bent", "_law_other", "_law_by", "_law_due", "_law_place_here"]
def t_law_c4 (K : PySem.W.Frag) : TS :=
  (tIfS (tNot (tTru K (tCall (spD K R_l_refused) [] E0 (tCons (tOp (rI (fun _ j => 0 < j) fun i j => .int (i % j)) (tOp (rI CDivW fun i j => .int (i / j)) (tVar 2) (tC (.int 7))) (tC (.int 2))) (tCons (tVar 3) (tCons (tOp (rIx K) (tLst (tCons (tC .non) (tCons (tC (.bl true)) (tCons (tC (.str "3")) (tCons (tTup (tCons (tC (.int 3)) tNil)) (tCons (tLst tNil) (tCons (tC (.bl false)) tNil))))))) (tOp (rI (fun _ j => 0 < j) fun i j => .int (i % j)) (tOp (rI CDivW fun i j => .int (i / j)) (tVar 2) (tC (.int 14))) (tC (.int 6)))) tNil))))))
  (tRet (tC (.bl false)))
  tNext)
def t_law_c3 (K : PySem.W.Frag) (Z : Zs) : TS :=
  (tSeq (tAsg (tCall (spD K R_l_place) [] E0 (tCons (tOp (rI CDivW fun i j => .int (i / j)) (tVar 2) (tC (.int 100))) tNil)) (gName 8))
  (tSeq (tAsg (tCB (rTupU K) (tCons (tLc (iRngU1 (tCons (tCB (rLenU K) (tCons (tVar 3) tNil)) tNil)) (gName 10) tYes (tCall (spD K R_l_round) [] E0 (tCons (tVar 3) (tCons (tOp (rI0 fun i j => .int (i - j)) (tVar 10) (tVar 8)) tNil))) [10]) tNil)) (gName 9))
  (tSeq (tIfS (tNot (tTru K (tCall (spD K R_l_alike) [] E0 (tCons (tFld K (tCall (spD K (R_moved_wheel Z)) [] E0 (tCons (tVar 4) (tCons (tVar 8) tNil))) "ring") (tCons (tCall (spD K R_l_least) [] E0 (tCons (tVar 9) tNil)) tNil)))))
  (tRet (tC (.bl false)))
  tNext)
  (tSeq (tAsg (tCB (rTupU K) (tCons (tLc (iRngU1 (tCons (tCB (rLenU K) (tCons (tVar 3) tNil)) tNil)) (gName 10) tYes (tCall (spD K R_l_round) [] E0 (tCons (tVar 3) (tCons (tOp (rI0 fun i j => .int (i - j)) (tVar 8) (tVar 10)) tNil))) [10]) tNil)) (gName 9))
  (tSeq (tIfS (tNot (tTru K (tCall (spD K R_l_alike) [] E0 (tCons (tFld K (tCall (spD K (R_mirrored_wheel Z)) [] E0 (tCons (tVar 4) (tCons (tVar 8) tNil))) "ring") (tCons (tCall (spD K R_l_least) [] E0 (tCons (tVar 9) tNil)) tNil)))))
  (tRet (tC (.bl false)))
  tNext)
  (t_law_c4 K))))))
def t_law_c2 (K : PySem.W.Frag) (Z : Zs) : TS :=
  (tSeq (tAsg (tOp (rI (fun _ j => 0 < j) fun i j => .int (i % j)) (tOp (rI CDivW fun i j => .int (i / j)) (tVar 2) (tC (.int 4))) (tCB (rLenU K) (tCons (tVar 3) tNil))) (gName 5))
  (tSeq (tAsg (tOp (rAddU K) (tOp (rAddU K) (tSl (rSlU K) (tVar 3) tNoPart (tPart (tVar 5))) (tTup (tCons (tCall (spD K R_l_value) [] E0 (tCons (tOp (rI CDivW fun i j => .int (i / j)) (tVar 2) (tC (.int 8))) tNil)) tNil))) (tSl (rSlU K) (tVar 3) (tPart (tOp (rAddU K) (tVar 5) (tC (.int 1)))) tNoPart)) (gName 6))
  (tSeq (tAsg (tOp (rIx K) (tLst (tCons (tOp (rMulU K) (tVar 3) (tC (.int 2))) (tCons (tVar 6) (tCons (tOp (rAddU K) (tSl (rSlU K) (tVar 3) (tPart (tC (.int 1))) tNoPart) (tSl (rSlU K) (tVar 3) tNoPart (tPart (tC (.int 1))))) (tCons (tOp (rMulU K) (tVar 3) (tC (.int 3))) tNil))))) (tOp (rI (fun _ j => 0 < j) fun i j => .int (i % j)) (tVar 2) (tC (.int 4)))) (gName 7))
  (tSeq (tIfS (tNot (tTru K (tCall (spD K R_l_same_right) [] E0 (tCons (tVar 3) (tCons (tVar 7) tNil)))))
  (tRet (tC (.bl false)))
  tNext)
  (t_law_c3 K Z)))))
def t_law_c1 (K : PySem.W.Frag) (Z : Zs) : TS :=
  (tSeq (tAsg (tMakeS Z.Wheel (spI K Z.Wheel (R_Wheel_init Z)) (fun _ => E0) (tCons (tVar 3) tNil)) (gName 4))
  (tSeq (tIfS (tNot (tTru K (tCall (spD K R_l_alike) [] E0 (tCons (tFld K (tCall (spD K (R_least_wheel Z)) [] E0 (tCons (tVar 4) tNil)) "ring") (tCons (tCall (spD K R_l_least) [] E0 (tCons (tVar 3) tNil)) tNil)))))
  (tRet (tC (.bl false)))
  tNext)
  (tSeq (tIfS (tNot (tTru K (tCall (spD K R_l_alike) [] E0 (tCons (tMethS Z.Wheel "tells" (spD K (R_Wheel_tells Z)) (fun _ => E0) (tCall (spD K (R_least_wheel Z)) [] E0 (tCons (tVar 4) tNil)) (tCons (tVar 2) tNil)) (tCons (tCall (spD K R_l_round) [] E0 (tCons (tVar 3) (tCons (tVar 2) tNil))) tNil)))))
  (tRet (tC (.bl false)))
  tNext)
  (t_law_c2 K Z))))
def t_law (K : PySem.W.Frag) (Z : Zs) : TS :=
  (tSeq (tFor (iRngU1 (tCons (tCB (rMx2) (tCons (tC (.int 1)) (tCons (tCB (rMn2) (tCons (tCB (rLenU K) (tCons (tVar 0) tNil)) (tCons (tC (.int 63)) tNil))) tNil))) tNil)) (gName 1)
  (tSeq (tAsg (tCall (spD K R_l_cell) [] E0 (tCons (tVar 0) (tCons (tOp (rAddU K) (tC (.int 500)) (tVar 1)) tNil))) (gName 2))
  (tSeq (tAsg (tCall (spD K R_l_ring) [] E0 (tCons (tVar 0) (tCons (tOp (rMulU K) (tC (.int 13)) (tVar 1)) tNil))) (gName 3))
  (tSeq (tIfS (tTest (tOp (rEqU K) (tOp (rI (fun _ j => 0 < j) fun i j => .int (i % j)) (tOp (rI CDivW fun i j => .int (i / j)) (tVar 2) (tC (.int 5))) (tC (.int 8))) (tC (.int 1))))
  (tAsg (tOp (rAddU K) (tOp (rMulU K) (tVar 3) (tC (.int 7))) (tSl (rSlU K) (tVar 3) tNoPart (tPart (tC (.int 1))))) (gName 3))
  tNext)
  (t_law_c1 K Z)))))
  (tRet (tCall (spD K R_l_great_right) [] E0 (tCons (tCall (spD K R_l_cell) [] E0 (tCons (tVar 0) (tCons (tC (.int 490)) tNil))) tNil))))
end Far
namespace Far
open PySem L2
theorem isE_dE (o : Option Int) : isE (dE o) = true := by cases o <;> simp [isNon, isTy_int_int, isTy_int_bool]
theorem known_dE (o : Option Int) : known (dE o) = true := by cases o <;> rfl
theorem all_isE (ring : List (Option Int)) : (vsD ring).all isE = true := by
  rw [List.all_eq_true]; intro x hx; obtain ⟨o, _, rfl⟩ := List.mem_map.mp hx; exact isE_dE o
theorem all_known (ring : List (Option Int)) : (vsD ring).all known = true := by
  rw [List.all_eq_true]; intro x hx; obtain ⟨o, _, rfl⟩ := List.mem_map.mp hx; exact known_dE o
theorem known_vsT (ring : List (Option Int)) : knownAll (.tup (vsD ring)) = true := all_known ring
theorem known_vsL (ring : List (Option Int)) : knownAll (.lst (vsD ring)) = true := all_known ring
theorem areV_ring {x : D} {ring : List (Option Int)} (hne : ring ≠ []) (hl : ring.length ≤ 4000) (hx : x = .tup (vsD ring) ∨ x = .lst (vsD ring)) : areV x 1 = true := by
  have h1 : (1 : Int) ≤ (vsD ring).length := by
    have : 0 < ring.length := List.length_pos_iff.mpr hne
    rw [List.length_map]; omega
  have h2 : (vsD ring).length ≤ 4000 := by rw [List.length_map]; exact hl
  rcases hx with rfl | rfl
  · show (decide _ && decide _ && _) = true
    rw [decide_eq_true h1, decide_eq_true h2, all_isE]; rfl
  · show (decide _ && decide _ && _) = true
    rw [decide_eq_true h1, decide_eq_true h2, all_isE]; rfl
theorem tell_at {ring : List (Option Int)} {q : Int} (h0 : 0 ≤ q) (h1 : q < ring.length) : L2.atI (vsD ring) q = some (dE (ring.getD q.toNat none)) := by
  rw [atI_getD (d := dE none) h0 (by rw [List.length_map]; exact h1)]
  congr 1
  rw [List.getD_eq_getElem?_getD, List.getElem?_map, List.getD_eq_getElem?_getD]
  cases ring[q.toNat]? <;> rfl
theorem tell_mod {ring : List (Option Int)} (hne : ring ≠ []) (p : Int) : L2.atI (vsD ring) (p % ring.length) = some (dE (tell ring p)) := by
  have hp : (0 : Int) < ring.length := by have : 0 < ring.length := List.length_pos_iff.mpr hne; omega
  exact tell_at (Int.emod_nonneg _ (by omega)) (Int.emod_lt_of_pos _ hp)
theorem len_vsD (ring : List (Option Int)) : (vsD ring).length = ring.length := List.length_map ..
theorem plD_dE (n : Nat) (o : Option Int) : plD n (dE o) = true := by
  cases n <;> cases o <;> rfl
theorem pl_vsT (n : Nat) (ring : List (Option Int)) (h : ring.length ≤ 1000000) : plD (n + 1) (.tup (vsD ring)) = true := by
  show (false || (decide _ && _)) = true
  rw [len_vsD, decide_eq_true h, Bool.false_or, Bool.true_and, List.all_eq_true]
  intro x hx; obtain ⟨o, _, rfl⟩ := List.mem_map.mp hx; exact plD_dE n o
theorem flat_pur {x : D} (h : flatI x = true) : pur x = true := by cases x <;> first | rfl | (simp [flatI] at h)
theorem flat_dep {x : D} (h : flatI x = true) : (pd x).depth ≤ 64 := by cases x <;> first | (simp [flatI] at h; done) | (simp [pd, PyData.depth])
theorem lf_dE (o : Option Int) : Lf (dE o) := by cases o <;> constructor
theorem lf_vsT (ring : List (Option Int)) : Lf (.tup (vsD ring)) := .tup fun w hw => by obtain ⟨o, _, rfl⟩ := List.mem_map.mp hw; exact lf_dE o
theorem eqv_dE (a b : Option Int) : PyData.eqv (pd (dE a)) (pd (dE b)) = decide (a = b) := by
  cases a <;> cases b <;> simp [pd, PyData.eqv] <;> rw [Bool.eq_iff_iff] <;> simp
theorem eqvA_vs : ∀ a b : List (Option Int), PyData.eqvAll (pdL (vsD a)) (pdL (vsD b)) = decide (a = b)
  | [], [] => by simp [pdL, PyData.eqvAll]
  | [], _ :: _ => by simp [pdL, PyData.eqvAll]
  | _ :: _, [] => by simp [pdL, PyData.eqvAll]
  | x :: a, y :: b => by
    show PyData.eqvAll (pd (dE x) :: pdL (vsD a)) (pd (dE y) :: pdL (vsD b)) = _
    simp only [PyData.eqvAll, eqv_dE, eqvA_vs a b]
    rw [Bool.eq_iff_iff]; simp
theorem eqD_vsT (a b : List (Option Int)) : eqD (.tup (vsD a)) (.tup (vsD b)) = decide (a = b) := by
  show PyData.eqv (pd (.tup (vsD a))) (pd (.tup (vsD b))) = _
  simp only [pd, PyData.eqv, eqvA_vs]
theorem pur_dE (o : Option Int) : pur (dE o) = true := by cases o <;> rfl
theorem purL_vs : ∀ a : List (Option Int), purL (vsD a) = true
  | [] => rfl
  | x :: a => by show (pur (dE x) && purL (vsD a)) = true; rw [pur_dE, purL_vs a]; rfl
theorem pur_vsT (a : List (Option Int)) : pur (.tup (vsD a)) = true := purL_vs a
theorem pur_vsL (a : List (Option Int)) : pur (.lst (vsD a)) = true := purL_vs a
theorem depL_vs : ∀ a : List (Option Int), PyData.depthAll (pdL (vsD a)) = 0
  | [] => rfl
  | x :: a => by
    show PyData.depthAll (pd (dE x) :: pdL (vsD a)) = 0
    simp only [PyData.depthAll, depL_vs a]
    cases x <;> simp [pd, PyData.depth]
theorem dep_vsT (a : List (Option Int)) : (pd (.tup (vsD a))).depth ≤ 64 := by simp [pd, PyData.depth, depL_vs]
theorem dep_vsL (a : List (Option Int)) : (pd (.lst (vsD a))).depth ≤ 64 := by simp [pd, PyData.depth, depL_vs]
theorem eq_vsT {K : PySem.W.Frag} (a b : List (Option Int)) : RV2 K (rEqU K) (.tup (vsD a)) (.tup (vsD b)) (.d (.bl (decide (a = b)))) := by
  rw [← eqD_vsT]; exact eq_D (pur_vsT _) (pur_vsT _) (dep_vsT _) (dep_vsT _)
theorem vsD_take (a : List (Option Int)) (n : Nat) : vsD (a.take n) = (vsD a).take n := List.map_take ..
theorem vsD_drop (a : List (Option Int)) (n : Nat) : vsD (a.drop n) = (vsD a).drop n := List.map_drop ..
theorem vsD_rep (a : List (Option Int)) (k : Nat) : vsD (List.replicate k a).flatten = (List.replicate k (vsD a)).flatten := by unfold vsD; rw [List.map_flatten, List.map_replicate]
theorem vsD_app (a b : List (Option Int)) : vsD (a ++ b) = vsD a ++ vsD b := List.map_append ..
/-- a tuple of values so many times over -/
theorem rep_vsT {K : PySem.W.Frag} {a : List (Option Int)} {k : Int} (hne : a ≠ []) (h1 : 1 ≤ k) (h2 : a.length * k.toNat ≤ 1000000) (h3 : k ≤ 1000000) : RV2 K (rMulU K) (.tup (vsD a)) (.int k) (.d (.tup (vsD (List.replicate k.toNat a).flatten))) := by
  rw [vsD_rep]
  by_cases e : k = 1
  · subst e
    have z : (List.replicate (1 : Int).toNat (vsD a)).flatten = vsD a := by show (List.replicate 1 (vsD a)).flatten = _; simp
    rw [z]; exact mul_tup1
  · exact mul_tup (fun z => hne (List.map_eq_nil_iff.mp z)) (by omega) (by rw [len_vsD]; exact h2) h3
theorem to_vsT {K : PySem.W.Frag} {δ : List S} {te tp : TE} {a : List (Option Int)} {m : Int} (h : EV K te δ (.d (.tup (vsD a)))) (h2 : EV K tp δ (.d (.int m))) (h0 : 0 ≤ m) : EV K (tSl (rSlU K) te tNoPart (tPart tp)) δ (.d (.tup (vsD (a.take m.toNat)))) := by
  rw [vsD_take, ← cut_to h0]; exact ev_slT h eo_none (eo_some h2)
theorem from_vsT {K : PySem.W.Frag} {δ : List S} {te tp : TE} {a : List (Option Int)} {m : Int} (h : EV K te δ (.d (.tup (vsD a)))) (h2 : EV K tp δ (.d (.int m))) (h0 : 0 ≤ m) : EV K (tSl (rSlU K) te (tPart tp) tNoPart) δ (.d (.tup (vsD (a.drop m.toNat)))) := by
  rw [vsD_drop, ← cut_from h0]; exact ev_slT h (eo_some h2) eo_none
theorem flat1 {α : Type} (n : Int) (x : α) : (List.replicate n.toNat [x]).flatten = List.replicate n.toNat x := by
  induction n.toNat with
  | zero => rfl
  | succ n ih => rw [List.replicate_succ, List.flatten_cons, ih, List.replicate_succ]; rfl
theorem lend1 {δ : List S} (i : Nat) (h : (δ.eraseIdx i).all (fun s => !owned s) = true) : Lend δ i := by
  intro k s hk hs
  have hm : s ∈ δ.eraseIdx i := by
    rw [List.mem_eraseIdx_iff_getElem?]
    exact ⟨k, hk, hs⟩
  have := List.all_eq_true.mp h s hm
  cases s with
  | un => trivial
  | d x => trivial
  | own ys => simp [owned] at this
  | ob a C fs => simp [owned] at this
end Far
namespace Far
open PySem L2
/-! the words that go over data: ev (expressions, tests, arguments, sources, targets), rv (operators), side (sizes), call (specs) -/
local macro_rules | `(tactic| walk_at "side") => `(tactic| first | assumption | omega | exact sz (Nat.le_of_ble_eq_true rfl) | decide | (simp only [List.length_map, List.length_cons, List.length_nil, List.length_append]; omega))
local macro_rules | `(tactic| walk_at "pur") => `(tactic| first | assumption | rfl)
local macro_rules | `(tactic| walk_at "dep") => `(tactic| first | assumption | exact Nat.le_of_ble_eq_true rfl)
local macro_rules | `(tactic| walk_at "lit") => `(tactic| first | rfl | assumption)
local macro_rules | `(tactic| walk_at "call") => `(tactic| fail "no spec")
local macro_rules | `(tactic| walk_at "tr") => `(tactic| first | with_reducible exact TrD.bl _ | with_reducible exact TrD.int _ | with_reducible exact TrD.non | with_reducible exact TrD.lst _ | with_reducible exact TrD.tup _ | with_reducible exact TrD.str _ (by walk_at "side"))
local macro_rules | `(tactic| walk_at "at") => `(tactic| first | assumption | rfl)
local macro_rules | `(tactic| walk_at "rv") => `(tactic| first
  | with_reducible exact add_int | with_reducible exact sub_int | ((with_reducible apply mul_int); walk_at "cmul") | ((with_reducible apply fdiv_int); walk_at "cdiv") | ((with_reducible apply mod_int); walk_at "side") | ((with_reducible apply pow_int); walk_at "cpow") | with_reducible exact neg_int
  | with_reducible exact lt_int | with_reducible exact le_int | with_reducible exact gt_int | with_reducible exact ge_int
  | with_reducible exact is_bl | with_reducible exact not_bl
  | with_reducible exact is_non | with_reducible exact not_non
  | with_reducible exact eq_int | with_reducible exact ne_int | with_reducible exact eq_bl | with_reducible exact ne_bl | with_reducible exact eq_str | with_reducible exact ne_str
  | with_reducible exact ne_scr_nil
  | with_reducible exact eq_int_non | with_reducible exact eq_non_int | with_reducible exact ne_int_non | with_reducible exact ne_non_int | with_reducible exact eq_non | with_reducible exact ne_non
  | ((with_reducible apply ix_lst); walk_at "at") | ((with_reducible apply ix_tup); walk_at "at") | ((with_reducible apply ix_scr); walk_at "at")
  | with_reducible exact len_lst | with_reducible exact len_tup | with_reducible exact len_scr | ((with_reducible apply len_str); walk_at "side")
  | with_reducible exact min2 | with_reducible exact max2 | with_reducible exact all_bls
  | ((with_reducible apply isU_ty); (· walk_at "known"); (· walk_at "kit"))
  | ((with_reducible apply isU_ty2); (· walk_at "known"); (· walk_at "kit"); (· walk_at "kit"))
  | ((with_reducible apply is_any); (· walk_at "kin"); (· rfl); (· walk_at "kit1"))
  | ((with_reducible apply is_anyL); (· walk_at "kin"); (· walk_at "clsl"); (· walk_at "kitT"))
  | ((with_reducible apply mul_tup); (· simp); (· walk_at "side"); (· walk_at "side"); (· walk_at "side"))
  | ((with_reducible apply mul_lst); (· walk_at "side"); (· walk_at "side"); (· walk_at "side"))
  | ((with_reducible apply add_lst); walk_at "side") | ((with_reducible apply add_tup); walk_at "side") | ((with_reducible apply add_str); walk_at "side") | ((with_reducible apply mul_wide); walk_at "cmulw")
  | with_reducible exact tuple_lst | with_reducible exact tuple_tup | with_reducible exact list_lst | with_reducible exact list_tup | with_reducible exact int_int | with_reducible exact int_bl | ((with_reducible apply str_int); walk_at "side") | with_reducible exact str_str
  | ((with_reducible apply eq_D); (· walk_at "pur"); (· walk_at "pur"); (· walk_at "dep"); (· walk_at "dep")) | ((with_reducible apply ne_D); (· walk_at "pur"); (· walk_at "pur"); (· walk_at "dep"); (· walk_at "dep")))
local macro_rules | `(tactic| walk_at "cmul") => `(tactic| first | assumption | exact Or.inl ⟨by omega, by omega⟩ | exact Or.inr ⟨by omega, by omega⟩)
local macro_rules | `(tactic| walk_at "cmulw") => `(tactic| fail "wide")
local macro_rules | `(tactic| walk_at "cdiv") => `(tactic| first | assumption | exact ⟨by decide, by decide⟩ | exact cdiv_small (by omega) (by omega))
local macro_rules | `(tactic| walk_at "cpow") => `(tactic| exact ⟨by decide, by decide, by decide⟩)
local macro_rules | `(tactic| walk_at "known") => `(tactic| first | rfl | assumption)
local macro_rules | `(tactic| walk_at "kit") => `(tactic| first | exact kit_any (by walk_at "known") (by simp) | assumption)
local macro_rules | `(tactic| walk_at "ev") => `(tactic| first
  | with_reducible exact ev_int | with_reducible exact ev_bl | with_reducible exact ev_non | with_reducible exact ev_str | with_reducible exact ev_ty | with_reducible exact ev_cls
  | ((with_reducible apply ev_var); rfl)
  | with_reducible exact ea_nil
  | ((with_reducible apply ea_cons); (· walk_at "ev"); (· walk_at "ev"))
  | ((with_reducible apply ev_op); (· walk_at "ev"); (· walk_at "ev"); (· walk_at "rv"))
  | ((with_reducible apply ev_frz); (with_reducible apply ev_op); (· walk_at "ev"); (· walk_at "ev"); (· walk_at "rv"))
  | ((with_reducible apply ev_un); (· walk_at "ev"); (· walk_at "rv"))
  | ((with_reducible apply ev_cb); (· walk_at "ev"); (· walk_at "rv"))
  | ((with_reducible apply ev_frz); (with_reducible apply ev_cb); (· walk_at "ev"); (· walk_at "rv"))
  | ((with_reducible apply ev_call); (· walk_at "ev"); (· walk_at "call"))
  | ((with_reducible apply ev_frz); (with_reducible apply ev_call); (· walk_at "ev"); (· walk_at "call"))
  | ((with_reducible apply eb_test); walk_at "ev") | ((with_reducible apply eb_B); walk_at "ev")
  | ((with_reducible apply eb_not); walk_at "ev")
  | ((with_reducible apply eb_and1); (· walk_at "ev"); (· walk_at "lit")) | ((with_reducible apply eb_and0); (· walk_at "ev"); (· walk_at "lit"); (· walk_at "ev"))
  | ((with_reducible apply eb_and); (· walk_at "ev"); (· intro _; walk_at "ev"))
  | ((with_reducible apply eb_or1); (· walk_at "ev"); (· walk_at "lit")) | ((with_reducible apply eb_or0); (· walk_at "ev"); (· walk_at "lit"); (· walk_at "ev"))
  | ((with_reducible apply eb_or); (· walk_at "ev"); (· intro _; walk_at "ev"))
  | ((with_reducible apply eb_tru); (· walk_at "ev"); (· walk_at "tr"))
  | ((with_reducible apply ev_andB1); (· walk_at "ev"); (· walk_at "lit")) | ((with_reducible apply ev_andB0); (· walk_at "ev"); (· walk_at "lit"); (· walk_at "ev"))
  | ((with_reducible apply ev_andB); (· walk_at "ev"); (· intro _; walk_at "ev"))
  | ((with_reducible apply ev_orB1); (· walk_at "ev"); (· walk_at "lit")) | ((with_reducible apply ev_orB0); (· walk_at "ev"); (· walk_at "lit"); (· walk_at "ev"))
  | ((with_reducible apply ev_orB); (· walk_at "ev"); (· intro _; walk_at "ev"))
  | ((with_reducible apply ev_orT); (· walk_at "ev"); (· walk_at "tr"); (· intro _; walk_at "ev"))
  | ((with_reducible apply ev_andT); (· walk_at "ev"); (· walk_at "tr"); (· intro _; walk_at "ev"))
  | ((with_reducible apply ev_notT); (· walk_at "ev"); (· walk_at "tr"))
  | ((with_reducible apply ev_if1'); (· walk_at "ev"); (· walk_at "lit"); (· walk_at "ev")) | ((with_reducible apply ev_if0'); (· walk_at "ev"); (· walk_at "lit"); (· walk_at "ev"))
  | ((with_reducible apply ev_ifI); (· walk_at "ev"); (· intro _; walk_at "ev"); (· intro _; walk_at "ev"))
  | ((with_reducible apply ev_ifB); (· walk_at "ev"); (· intro _; walk_at "ev"); (· intro _; walk_at "ev"))
  | ((with_reducible apply ev_ifS); (· walk_at "ev"); (· intro _; walk_at "ev"); (· intro _; walk_at "ev"))
  | ((with_reducible apply ev_ifD); (· walk_at "ev"); (· intro _; walk_at "ev"); (· intro _; walk_at "ev"))
  | ((with_reducible apply ev_tup); (· walk_at "ev"); (· walk_at "side"))
  | ((with_reducible apply ev_lst); (· walk_at "ev"); (· walk_at "side"))
  | ((with_reducible apply ev_frz); (with_reducible apply ev_lst); (· walk_at "ev"); (· walk_at "side"))
  | ((with_reducible apply ev_chain); (· walk_at "ev"); (· walk_at "ev"); (· walk_at "rv"); (· walk_at "ev"); (· walk_at "rv"))
  | with_reducible exact ev_dnew
  | ((with_reducible apply ev_fld); (· walk_at "ev"); (· walk_at "cls"); (· walk_at "noa"); (· walk_at "lk"))
  | ((with_reducible apply ev_makeS); (· walk_at "ev"); (· walk_at "call"))
  | ((with_reducible apply ev_callS); (· walk_at "ev"); (· walk_at "call"))
  | ((with_reducible apply ev_methS); (· walk_at "ev"); (· walk_at "lk"); (· walk_at "ev"); (· walk_at "call"))
  | ((with_reducible apply ev_eL); walk_at "ev") | ((with_reducible apply ev_eR); walk_at "ev")
  | with_reducible exact eo_none
  | ((with_reducible apply eo_some); walk_at "ev")
  | ((with_reducible apply ev_slL); (· walk_at "ev"); (· walk_at "ev"); (· walk_at "ev"))
  | ((with_reducible apply ev_slT); (· walk_at "ev"); (· walk_at "ev"); (· walk_at "ev"))
  | ((with_reducible apply ev_frz); (with_reducible apply ev_slL); (· walk_at "ev"); (· walk_at "ev"); (· walk_at "ev"))
  | ((with_reducible apply ev_mxD); (· walk_at "ev"); (· walk_at "ev"))
  | ((with_reducible apply ei_seqL); walk_at "ev") | ((with_reducible apply ei_seqT); walk_at "ev") | ((with_reducible apply ei_tup); walk_at "ev")
  | ((with_reducible apply ei_rngU1); (· walk_at "ev"); (· walk_at "side"); (· walk_at "side"))
  | ((with_reducible apply ei_rngU2); (· walk_at "ev"); (· walk_at "rngs"))
  | ((with_reducible apply et_name); walk_at "lt")
  | ((with_reducible apply et_seqT); (· walk_at "ets"); (· rfl)) | ((with_reducible apply et_seqL); (· walk_at "ets"); (· rfl)))
local macro_rules | `(tactic| walk_at "rngs") => `(tactic| exact ⟨by omega, by omega, by omega, by omega⟩)
local macro_rules | `(tactic| walk_at "lt") => `(tactic| first | exact Nat.le_of_ble_eq_true rfl | decide)
local macro_rules | `(tactic| walk_at "ets") => `(tactic| first | with_reducible exact ETs.nil | ((with_reducible apply ETs.cons); (· walk_at "ev"); (· walk_at "ets")))
/-! one statement -/
local macro_rules | `(tactic| walk_at "sd") => `(tactic| first
  | (with_reducible apply sd_seq)
  | ((with_reducible apply sd_setD); (· walk_at "ev"); (· walk_at "lt"))
  | ((with_reducible apply sd_ret); (· walk_at "ev"))
  | ((with_reducible apply sd_if1); (· walk_at "ev"); (· walk_at "lit")) | ((with_reducible apply sd_if0); (· walk_at "ev"); (· walk_at "lit"))
  | ((with_reducible apply sd_if); (· walk_at "ev"))
  | ((with_reducible apply sd_asg); (· walk_at "ev"); (· walk_at "ev"))
  | ((with_reducible apply sd_fld); (· rfl); (· walk_at "ev"); (· walk_at "cls"); (· walk_at "noa"); (· exact Nat.le_of_ble_eq_true rfl))
  | (with_reducible apply sd_raise)
  | (with_reducible apply sd_next)
  | (with_reducible apply sd_retN))
local macro_rules | `(tactic| walk_at "weak") => `(tactic| (apply WK.weak; repeat (first | exact WK.nil | apply WK.same | apply WK.un)))
local macro_rules | `(tactic| walk_at "lk") => `(tactic| first | exact lk_one | exact lk_none (by decide +kernel) | rfl | (simp [List.lookup]; done))
local macro_rules | `(tactic| walk_at "clsl") => `(tactic| first | with_reducible exact ClsL.nil | ((with_reducible apply ClsL.cls); walk_at "clsl") | ((with_reducible apply ClsL.ty); walk_at "clsl"))
local macro_rules | `(tactic| walk_at "kitT") => `(tactic| first | with_reducible exact kitAny_nil | ((with_reducible apply kitAny_t); walk_at "kit1") | ((with_reducible apply kitAny_f); (· walk_at "kit1"); (· walk_at "kitT")))
local macro_rules | `(tactic| walk_at "cls") => `(tactic| fail "no class")
local macro_rules | `(tactic| walk_at "noa") => `(tactic| fail "no attribute")
local macro_rules | `(tactic| walk_at "kin") => `(tactic| first | exact Kin.ty (by walk_at "known"))
local macro_rules | `(tactic| walk_at "kit1") => `(tactic| fail "no kit")
local macro_rules | `(tactic| walk_at "exm") => `(tactic| fail "no exm")
local macro_rules | `(tactic| walk_at "ex") => `(tactic| first
  | ((with_reducible apply ex_makeS); (· walk_at "ev"); (· walk_at "call")) | ((with_reducible apply ex_callS); (· walk_at "ev"); (· walk_at "call"))
  | ((with_reducible apply ex_methS); (· walk_at "ev"); (· walk_at "lk"); (· walk_at "ev"); (· walk_at "call"))
  | ((with_reducible apply ex_makeA); walk_at "ex") | ((with_reducible apply ex_callA); walk_at "ex") | ((with_reducible apply exa_head); walk_at "ex") | ((with_reducible apply exa_tail); (· walk_at "ev"); (· walk_at "ex")))
local macro_rules | `(tactic| walk_at "kit1") => `(tactic| first | with_reducible exact ZF.kit_NoPlace_NoSpan | with_reducible exact ZF.kit_NoPlace_NoValue | with_reducible exact ZF.kit_NoPlace_NoPlace | with_reducible exact ZF.kit_NoPlace_NoCount | with_reducible exact ZF.kit_NoPlace_NoWheel | with_reducible exact ZF.kit_NoPlace_NoRow | with_reducible exact ZF.kit_NoPlace_NoText | with_reducible exact ZF.kit_NoPlace_TooMany | with_reducible exact ZF.kit_NoPlace_ValueError | with_reducible exact ZF.kit_NoWheel_NoSpan | with_reducible exact ZF.kit_NoWheel_NoValue | with_reducible exact ZF.kit_NoWheel_NoPlace | with_reducible exact ZF.kit_NoWheel_NoCount | with_reducible exact ZF.kit_NoWheel_NoWheel | with_reducible exact ZF.kit_NoWheel_NoRow | with_reducible exact ZF.kit_NoWheel_NoText | with_reducible exact ZF.kit_NoWheel_TooMany | with_reducible exact ZF.kit_NoWheel_ValueError)
local macro_rules | `(tactic| walk_at "kin") => `(tactic| first | with_reducible exact Kin.exc ZF.exc_NoPlace | with_reducible exact Kin.exc ZF.exc_NoWheel | with_reducible exact Kin.ins ZF.ins_Wheel | with_reducible exact Kin.ty (by walk_at "known"))
local macro_rules | `(tactic| walk_at "noa") => `(tactic| first | with_reducible exact ZF.na_Wheel_ring)
local macro_rules | `(tactic| walk_at "cls") => `(tactic| first | with_reducible exact (ZF.ins_Wheel).cl)
local macro_rules | `(tactic| walk_at "exm") => `(tactic| first | with_reducible exact ZF.exm_NoPlace_FarError | with_reducible exact ZF.exm_NoWheel_FarError)
section
variable {K : PySem.W.Frag} (E : WX) {xs : List D} {out : Out}
theorem hl_is_place : ∀ xs out, R_is_place xs out → xs.length = ["thing"].length := by rintro _ _ ⟨x, rfl, _⟩; rfl
theorem sd_is_place (h : R_is_place xs out) : SDef K E (t_is_place K) (slots N_is_place.length xs) out := by
  obtain ⟨x, rfl, hk, rfl⟩ := h
  show SD K E (t_is_place K) [.d x] _ _ _ _ _
  unfold t_is_place
  walk_at "sd"
  exact .inl rfl

end
section
variable {K : PySem.W.Frag} (E : WX) {xs : List D} {out : Out}
local macro_rules | `(tactic| walk_at "call") => `(tactic| first | exact ⟨_, rfl, by walk_at "known", rfl⟩)
theorem hl_is_value : ∀ xs out, R_is_value xs out → xs.length = ["thing"].length := by rintro _ _ ⟨x, rfl, _⟩; rfl
theorem sd_is_value (h : R_is_value xs out) : SDef K E (t_is_value K) (slots N_is_value.length xs) out := by
  obtain ⟨x, rfl, hk, rfl⟩ := h
  show SD K E (t_is_value K) [.d x] _ _ _ _ _
  unfold t_is_value
  walk_at "sd"
  exact .inl rfl

end
section
variable {K : PySem.W.Frag} (E : WX) {xs : List D} {out : Out}
local macro_rules | `(tactic| walk_at "call") => `(tactic| first | exact ⟨_, rfl, by walk_at "known", rfl⟩)
theorem hl_are_values : ∀ xs out, R_are_values xs out → xs.length = ["things", "fewest"].length := by rintro _ _ ⟨x, f, rfl, _⟩; rfl
theorem sd_are_values (h : R_are_values xs out) : SDef K E (t_are_values K) (slots N_are_values.length xs) out := by
  obtain ⟨x, f, rfl, hk, hka, rfl⟩ := h
  show SD K E (t_are_values K) [.d x, .d (.int f), .un] _ _ _ _ _
  unfold t_are_values
  cases ht : isTy x "tuple" || isTy x "list" with
  | false =>
    walk_at "sd"
    refine sd_if (b := true) (eb_orT (eb_is (eb_not (eb_tru (by walk_at "ev") (.bl _))) (by rw [ht]; rfl))) (fun _ => ?_) (fun z => nomatch z)
    walk_at "sd"
    have e : areV x f = false := by
      cases x <;> first | rfl | (simp [isTy_tup_tuple, isTy_lst_list] at ht)
    rw [e]; exact .inl rfl
  | true =>
    have main : ∀ ys : List D, ys.all known = true → areV x f = (decide (f ≤ ys.length) && decide (ys.length ≤ 4000) && ys.all isE) → (∀ δ : List S, EV K (tVar 0) (.d x :: δ) (.d x)) → RVN K (rLenU K) [x] (.d (.int ys.length)) → (∀ δ : List S, EI K (iSeq K (tVar 0)) (.d x :: δ) ys) → SD K E (t_are_values K) [.d x, .d (.int f), .un] (fun _ => Out.ret (.d (.bl (areV x f))) = .ret (.d .non)) (Fits (.ret (.d (.bl (areV x f))))) NoS NoS (fun _ c fs => Out.ret (.d (.bl (areV x f))) = .exc c fs) := by
      intro ys hall hv h0 hl hi
      unfold t_are_values
      walk_at "sd"
      refine sd_if (b := !(decide (f ≤ ys.length) && decide ((ys.length : Int) ≤ 4000))) (eb_is (eb_or (a := false) (b := !(decide (f ≤ ys.length) && decide ((ys.length : Int) ≤ 4000))) (eb_is (eb_not (eb_tru (by walk_at "ev") (.bl _))) (by rw [ht]; rfl)) (fun _ => eb_not (eb_test (ev_chain (by walk_at "ev") (ev_cb (ea_cons (h0 _) ea_nil) hl) (by walk_at "rv") (by walk_at "ev") (by walk_at "rv"))))) (by simp)) (fun h1 => ?_) (fun h1 => ?_)
      · walk_at "sd"
        have e : areV x f = false := by
          rw [hv]
          simp only [Bool.not_eq_true', Bool.and_eq_false_iff, decide_eq_false_iff_not] at h1
          rcases h1 with h1 | h1
          · rw [decide_eq_false h1]; rfl
          · rw [decide_eq_false (p := ys.length ≤ 4000) (by omega)]; simp
        rw [e]; exact .inl rfl
      · walk_at "sd"
        simp only [Bool.not_eq_false', Bool.and_eq_true, decide_eq_true_eq] at h1
        have e : areV x f = ys.all isE := by
          rw [hv, decide_eq_true h1.1, decide_eq_true (p := ys.length ≤ 4000) (by omega)]; rfl
        rw [e]
        refine sd_ret (ev_allD (b := isE) (hi _) (gok_name (by decide)) (sz (by have := h1.2; omega)) fun y hy => ?_) (.inl rfl)
        have hky := known_get hall hy
        exact ⟨_, by walk_at "ev", by walk_at "ev"⟩
    cases x with
    | tup ys => exact main ys hka rfl (fun _ => by walk_at "ev") (by walk_at "rv") (fun _ => by walk_at "ev")
    | lst ys => exact main ys hka rfl (fun _ => by walk_at "ev") (by walk_at "rv") (fun _ => by walk_at "ev")
    | _ => first | (simp [known] at hk; done) | (simp [isTy_non_tuple, isTy_bl_tuple, isTy_int_tuple, isTy_str_tuple, isTy_non_list, isTy_bl_list, isTy_int_list, isTy_str_list, isTy_dK_tuple, isTy_dK_list] at ht)

end
section
variable {K : PySem.W.Frag} {Z : Zs} [ZF K Z] (E : WX) {xs : List D} {out : Out}
local macro_rules | `(tactic| walk_at "call") => `(tactic| first | exact ⟨_, _, rfl, by walk_at "known", by walk_at "known", rfl⟩)
theorem hl_Wheel_init : ∀ xs out, R_Wheel_init Z xs out → xs.length + 1 = ["self", "values"].length := by rintro _ _ ⟨x, rfl, _⟩; rfl
theorem sd_Wheel_init {a : Addr} (h : R_Wheel_init Z xs out) : SDefI K E a Z.Wheel (t_Wheel_init K Z E) (slotsI N_Wheel_init.length a Z.Wheel xs) out := by
  obtain ⟨x, rfl, hk, hka, h⟩ := h
  show SD K E (t_Wheel_init K Z E) [.ob a Z.Wheel [], .d x] _ _ _ _ _
  unfold t_Wheel_init
  rcases h with ⟨ring, hne, hlen, hx, rfl⟩ | ⟨hb, rfl⟩
  · have hv : areV x 1 = true := areV_ring hne hlen hx
    walk_at "sd"
    refine sd_if0 (by walk_at "ev") (by rw [hv]; rfl) ?_
    walk_at "sd"
    rcases hx with rfl | rfl
    · walk_at "sd"; exact ⟨_, rfl, rfl⟩
    · walk_at "sd"; exact ⟨_, rfl, rfl⟩
  · walk_at "sd"
    refine sd_if1 (by walk_at "ev") (by rw [hb]; rfl) ?_
    exact sd_raise rfl

end
section
variable {K : PySem.W.Frag} {Z : Zs} [ZF K Z] (E : WX) {xs : List D} {out : Out}
local macro_rules | `(tactic| walk_at "call") => `(tactic| first | exact ⟨_, rfl, by walk_at "known", rfl⟩)
theorem hl_need_place : ∀ xs out, R_need_place Z xs out → xs.length = ["thing"].length := by rintro _ _ ⟨x, rfl, _⟩; rfl
theorem sd_need_place (h : R_need_place Z xs out) : SDef K E (t_need_place K Z E) (slots N_need_place.length xs) out := by
  obtain ⟨x, rfl, hk, h⟩ := h
  show SD K E (t_need_place K Z E) [.d x] _ _ _ _ _
  unfold t_need_place
  rcases h with ⟨hp, rfl⟩ | ⟨hp, rfl⟩
  · refine sd_if0 (by walk_at "ev") (by rw [hp]; rfl) ?_
    exact sd_next rfl
  · refine sd_if1 (by walk_at "ev") (by rw [hp]; rfl) ?_
    exact sd_raise rfl

end
section
variable {K : PySem.W.Frag} {Z : Zs} [ZF K Z] (E : WX) {xs : List D} {out : Out}
theorem hl_Wheel_tells : ∀ xs out, R_Wheel_tells Z xs out → xs.length = ["self", "place"].length := by rintro _ _ ⟨x, p, rfl, _⟩; rfl
theorem sd_Wheel_tells (h : R_Wheel_tells Z xs out) : SDef K E (t_Wheel_tells K) (slots N_Wheel_tells.length xs) out := by
  obtain ⟨ring, p, rfl, hne, hl, rfl⟩ := h
  show SD K E (t_Wheel_tells K) [.d (wheelD Z ring), .d (.int p)] _ _ _ _ _
  unfold t_Wheel_tells
  have hat := tell_mod hne p
  have e := len_vsD ring
  have hp : (0 : Int) < (vsD ring).length := by have : 0 < ring.length := List.length_pos_iff.mpr hne; omega
  rw [← e] at hat
  walk_at "sd"
  exact .inl rfl

end
section
variable {K : PySem.W.Frag} (E : WX) {xs : List D} {out : Out}
theorem hl_least_round : ∀ xs out, R_least_round xs out → xs.length = ["values"].length := by rintro _ _ ⟨x, rfl, _⟩; rfl
theorem sd_least_round (h : R_least_round xs out) : SDef K E (t_least_round K) (slots N_least_round.length xs) out := by
  obtain ⟨r, rfl, hne, hl, rfl⟩ := h
  show SD K E (t_least_round K) [.d (.tup (vsD r)), .un] _ _ _ _ _
  unfold t_least_round
  have hp : 0 < r.length := List.length_pos_iff.mpr hne
  have hv := len_vsD r
  walk_at "sd"
  refine sd_rng2P (m := 1) (n := ((vsD r).length : Int)) (fun i => ∀ j, j < i → fitsR r (j + 1) = false) (fun j hj => by omega) (by walk_at "ev") ⟨by omega, by omega, by omega, by omega⟩ (fun _ => [.d (.tup (vsD r)), .un]) (by walk_at "weak") (fun i hi hP => ?_) (fun hP => ?_)
  · refine ⟨_, by walk_at "ev", ?_⟩
    rw [hv] at hi
    have hm : (0 : Int) < 1 + (i : Int) := by omega
    have hcast : ((r.length : Int) % (1 + (i : Int)) = 0) = (r.length % (i + 1) = 0) := by
      have e : (r.length : Int) % (1 + (i : Int)) = ((r.length % (i + 1) : Nat) : Int) := by push_cast; rw [Int.add_comm]
      rw [e]; exact propext ⟨fun z => by omega, fun z => by omega⟩
    have ht : EB K (tAnd (tTest (tOp (rEqU K) (tOp (rI (fun _ j => 0 < j) fun i j => .int (i % j)) (tCB (rLenU K) (tCons (tVar 0) tNil)) (tVar 1)) (tC (.int 0)))) (tTest (tOp (rEqU K) (tVar 0) (tOp (rMulU K) (tSl (rSlU K) (tVar 0) tNoPart (tPart (tVar 1))) (tOp (rI CDivW fun i j => .int (i / j)) (tCB (rLenU K) (tCons (tVar 0) tNil)) (tVar 1)))))) [.d (.tup (vsD r)), .d (.int (1 + (i : Int)))] (fitsR r (i + 1)) := by
      have hb1 : EB K (tTest (tOp (rEqU K) (tOp (rI (fun _ j => 0 < j) fun i j => .int (i % j)) (tCB (rLenU K) (tCons (tVar 0) tNil)) (tVar 1)) (tC (.int 0)))) [.d (.tup (vsD r)), .d (.int (1 + (i : Int)))] (decide (r.length % (i + 1) = 0)) := eb_is (by walk_at "ev") (by rw [hv]; exact decide_eq_decide.mpr (iff_of_eq hcast))
      refine eb_is (eb_and (a := decide (r.length % (i + 1) = 0)) (b := decide (r = (List.replicate (r.length / (i + 1)) (r.take (i + 1))).flatten)) hb1 (fun hd => ?_)) rfl
      · rw [decide_eq_true_eq] at hd
        obtain ⟨q, hq⟩ := Nat.dvd_of_mod_eq_zero hd
        have hq0 : 0 < q := Nat.pos_of_ne_zero fun z => by rw [z, Nat.mul_zero] at hq; omega
        have hdiv : r.length / (i + 1) = q := by rw [hq, Nat.mul_div_cancel_left _ (by omega)]
        have hdi : (r.length : Int) / (1 + (i : Int)) = (q : Int) := by rw [← hdiv]; push_cast; rw [Int.add_comm]
        have hte : (r.take (i + 1)) ≠ [] := fun z => by
          have h5 := congrArg List.length z
          rw [List.length_take, List.length_nil] at h5
          omega
        have e0 : ((1 + (i : Int)).toNat) = i + 1 := by omega
        have hc : CDivW (r.length : Int) (1 + (i : Int)) := cdiv_small hm (by omega)
        have s1 := to_vsT (K := K) (δ := [.d (.tup (vsD r)), .d (.int (1 + (i : Int)))]) (te := tVar 0) (tp := tVar 1) (a := r) (m := 1 + (i : Int)) (ev_var rfl) (ev_var rfl) (by omega)
        rw [e0] at s1
        have s2 : EV K (tOp (rI CDivW fun i j => .int (i / j)) (tCB (rLenU K) (tCons (tVar 0) tNil)) (tVar 1)) [.d (.tup (vsD r)), .d (.int (1 + (i : Int)))] (.d (.int (q : Int))) := by
          rw [← hdi, ← hv] at *
          walk_at "ev"
        have hsz : (r.take (i + 1)).length * (q : Int).toNat ≤ 1000000 := by
          rw [Int.toNat_natCast, List.length_take, Nat.min_eq_left (by omega), ← hq]; omega
        have hqle : q ≤ r.length := by rw [hq]; exact Nat.le_mul_of_pos_left _ (by omega)
        have s3 := ev_op s1 s2 (rep_vsT hte (by omega) hsz (by omega))
        have s4 := ev_op (ev_var (i := 0) rfl) s3 (eq_vsT _ _)
        rw [Int.toNat_natCast] at s4
        refine eb_test (ev_is s4 ?_)
        rw [hdiv]
    refine sd_if ht (fun h1 => ?_) (fun h1 => ?_)
    · have s1 := to_vsT (K := K) (δ := [.d (.tup (vsD r)), .d (.int (1 + (i : Int)))]) (te := tVar 0) (tp := tVar 1) (a := r) (m := 1 + (i : Int)) (ev_var rfl) (ev_var rfl) (by omega)
      have e : leastR r = r.take (1 + (i : Int)).toNat := by
        unfold leastR; rw [leastN_eq (by omega) h1 hP]; congr 1; omega
      exact sd_ret s1 (.inl (by rw [e]))
    · refine sd_next ⟨fun j hj => ?_, by walk_at "weak"⟩
      rcases Nat.lt_or_ge j i with z | z
      · exact hP j z
      · have : j = i := by omega
        subst this; exact h1
  · have e : leastR r = r := leastR_all hne fun j hj => hP j (by omega)
    rw [e]
    walk_at "sd"
    exact .inl rfl

end
section
variable {K : PySem.W.Frag} {Z : Zs} [ZF K Z] (E : WX) {xs : List D} {out : Out}
theorem hl_least_wheel : ∀ xs out, R_least_wheel Z xs out → xs.length = ["wheel"].length := by rintro _ _ ⟨x, rfl, _⟩; rfl
theorem sd_least_wheel (h : R_least_wheel Z xs out) : SDef K E (t_least_wheel K Z) (slots N_least_wheel.length xs) out := by
  obtain ⟨r, rfl, hne, hl, rfl⟩ := h
  show SD K E (t_least_wheel K Z) [.d (wheelD Z r)] _ _ _ _ _
  unfold t_least_wheel
  have h1 : EV K (tFld K (tVar 0) "ring") [.d (wheelD Z r)] (.d (.tup (vsD r))) := by walk_at "ev"
  have h2 := ev_call (E := E0) (R := R_least_round) (ea_cons h1 ea_nil) ⟨r, rfl, hne, hl, rfl⟩
  exact sd_ret (ev_makeS (ea_cons h2 ea_nil) ⟨_, rfl, rfl, known_vsT _, .inl ⟨leastR r, leastR_ne hne, Nat.le_trans (leastR_le hne) hl, .inl rfl, rfl⟩⟩) (.inl rfl)

end
section
variable {K : PySem.W.Frag} {Z : Zs} [ZF K Z] (E : WX) {xs : List D} {out : Out}
theorem hl_same_wheels : ∀ xs out, R_same_wheels Z xs out → xs.length = ["one", "other"].length := by rintro _ _ ⟨x, y, rfl, _⟩; rfl
theorem sd_same_wheels (h : R_same_wheels Z xs out) : SDef K E (t_same_wheels K) (slots N_same_wheels.length xs) out := by
  obtain ⟨r, s, rfl, hr, hrl, hs, hsl, rfl⟩ := h
  show SD K E (t_same_wheels K) [.d (wheelD Z r), .d (wheelD Z s)] _ _ _ _ _
  unfold t_same_wheels
  have h1 : EV K (tFld K (tVar 0) "ring") [.d (wheelD Z r), .d (wheelD Z s)] (.d (.tup (vsD r))) := by walk_at "ev"
  have h2 : EV K (tFld K (tVar 1) "ring") [.d (wheelD Z r), .d (wheelD Z s)] (.d (.tup (vsD s))) := by walk_at "ev"
  exact sd_ret (ev_op (ev_call (ea_cons h1 ea_nil) ⟨r, rfl, hr, hrl, rfl⟩) (ev_call (ea_cons h2 ea_nil) ⟨s, rfl, hs, hsl, rfl⟩) (eq_vsT _ _)) (.inl rfl)

end
section
variable {K : PySem.W.Frag} {Z : Zs} [ZF K Z] (E : WX) {xs : List D} {out : Out}
theorem hl_moved_wheel : ∀ xs out, R_moved_wheel Z xs out → xs.length = ["wheel", "by"].length := by rintro _ _ ⟨x, y, rfl, _⟩; rfl
theorem sd_moved_wheel (h : R_moved_wheel Z xs out) : SDef K E (t_moved_wheel K Z E) (slots N_moved_wheel.length xs) out := by
  obtain ⟨r, x, rfl, hne, hl, hk, h⟩ := h
  show SD K E (t_moved_wheel K Z E) [.d (wheelD Z r), .d x, .un] _ _ _ _ _
  unfold t_moved_wheel
  rcases h with ⟨b, rfl, rfl⟩ | ⟨hp, rfl⟩
  · walk_at "sd"
    refine sd_drop (s := .d .non) (ev_callS (xs := [.int b]) (by walk_at "ev") ⟨_, rfl, rfl, .inl ⟨by simp [isTy_int_int, isTy_int_bool], rfl⟩⟩) ?_
    have h1 : EV K (tFld K (tVar 0) "ring") [.d (wheelD Z r), .d (.int b), .un] (.d (.tup (vsD r))) := by walk_at "ev"
    have hv := len_vsD r
    have hp : 0 < r.length := List.length_pos_iff.mpr hne
    have hm : (movedV r b).length = r.length := by unfold movedV; rw [List.length_map, List.length_range]
    have hmn : movedV r b ≠ [] := fun z => by rw [z] at hm; simp at hm; omega
    have h2 := ev_frz (ev_lcR1 (K := K) (δ := [.d (wheelD Z r), .d (.int b), .un]) (n := ((vsD r).length : Int)) (tr := tCons (tCB (rLenU K) (tCons (tFld K (tVar 0) "ring") tNil)) tNil) (g := gName 2) (vs := [2]) (te := tMethS Z.Wheel "tells" (spD K (R_Wheel_tells Z)) (fun _ => E0) (tVar 0) (tCons (tOp (rI0 fun i j => .int (i - j)) (tVar 2) (tVar 1)) tNil)) (f := fun i => dE (tell r ((i : Int) - b)))
      (ea_cons (ev_cb (ea_cons h1 ea_nil) len_tup) ea_nil) (by omega) (by omega) (sz (by omega)) (gok_name (by decide)) fun i hi => ⟨_, by walk_at "ev", ev_methS (xs := [.int ((i : Int) - b)]) (by walk_at "ev") (by walk_at "lk") (by walk_at "ev") ⟨r, _, rfl, hne, hl, rfl⟩⟩)
    have e : (List.range ((vsD r).length : Int).toNat).map (fun i : Nat => dE (tell r ((i : Int) - b))) = vsD (movedV r b) := by
      unfold movedV vsD; rw [List.map_map, Int.toNat_natCast, List.length_map]; rfl
    rw [e] at h2
    exact sd_ret (ev_call (ea_cons (ev_makeS (ea_cons h2 ea_nil) ⟨_, rfl, rfl, known_vsL _, .inl ⟨movedV r b, hmn, by omega, .inr rfl, rfl⟩⟩) ea_nil) ⟨_, rfl, hmn, by omega, rfl⟩) (.inl rfl)
  · walk_at "sd"
    exact sd_dropX (ex_callS (xs := [x]) (by walk_at "ev") ⟨_, rfl, hk, .inr ⟨hp, rfl⟩⟩) rfl

end
section
variable {K : PySem.W.Frag} {Z : Zs} [ZF K Z] (E : WX) {xs : List D} {out : Out}
theorem hl_mirrored_wheel : ∀ xs out, R_mirrored_wheel Z xs out → xs.length = ["wheel", "about"].length := by rintro _ _ ⟨x, y, rfl, _⟩; rfl
theorem sd_mirrored_wheel (h : R_mirrored_wheel Z xs out) : SDef K E (t_mirrored_wheel K Z E) (slots N_mirrored_wheel.length xs) out := by
  obtain ⟨r, x, rfl, hne, hl, hk, h⟩ := h
  show SD K E (t_mirrored_wheel K Z E) [.d (wheelD Z r), .d x, .un] _ _ _ _ _
  unfold t_mirrored_wheel
  rcases h with ⟨b, rfl, rfl⟩ | ⟨hp, rfl⟩
  · walk_at "sd"
    refine sd_drop (s := .d .non) (ev_callS (xs := [.int b]) (by walk_at "ev") ⟨_, rfl, rfl, .inl ⟨by simp [isTy_int_int, isTy_int_bool], rfl⟩⟩) ?_
    have h1 : EV K (tFld K (tVar 0) "ring") [.d (wheelD Z r), .d (.int b), .un] (.d (.tup (vsD r))) := by walk_at "ev"
    have hv := len_vsD r
    have hp : 0 < r.length := List.length_pos_iff.mpr hne
    have hm : (mirrV r b).length = r.length := by unfold mirrV; rw [List.length_map, List.length_range]
    have hmn : mirrV r b ≠ [] := fun z => by rw [z] at hm; simp at hm; omega
    have h2 := ev_frz (ev_lcR1 (K := K) (δ := [.d (wheelD Z r), .d (.int b), .un]) (n := ((vsD r).length : Int)) (tr := tCons (tCB (rLenU K) (tCons (tFld K (tVar 0) "ring") tNil)) tNil) (g := gName 2) (vs := [2]) (te := tMethS Z.Wheel "tells" (spD K (R_Wheel_tells Z)) (fun _ => E0) (tVar 0) (tCons (tOp (rI0 fun i j => .int (i - j)) (tVar 1) (tVar 2)) tNil)) (f := fun i => dE (tell r (b - (i : Int))))
      (ea_cons (ev_cb (ea_cons h1 ea_nil) len_tup) ea_nil) (by omega) (by omega) (sz (by omega)) (gok_name (by decide)) fun i hi => ⟨_, by walk_at "ev", ev_methS (xs := [.int (b - (i : Int))]) (by walk_at "ev") (by walk_at "lk") (by walk_at "ev") ⟨r, _, rfl, hne, hl, rfl⟩⟩)
    have e : (List.range ((vsD r).length : Int).toNat).map (fun i : Nat => dE (tell r (b - (i : Int)))) = vsD (mirrV r b) := by
      unfold mirrV vsD; rw [List.map_map, Int.toNat_natCast, List.length_map]; rfl
    rw [e] at h2
    exact sd_ret (ev_call (ea_cons (ev_makeS (ea_cons h2 ea_nil) ⟨_, rfl, rfl, known_vsL _, .inl ⟨mirrV r b, hmn, by omega, .inr rfl, rfl⟩⟩) ea_nil) ⟨_, rfl, hmn, by omega, rfl⟩) (.inl rfl)
  · walk_at "sd"
    exact sd_dropX (ex_callS (xs := [x]) (by walk_at "ev") ⟨_, rfl, hk, .inr ⟨hp, rfl⟩⟩) rfl

end
section
variable {K : PySem.W.Frag} (E : WX) {xs : List D} {out : Out}
theorem hl_l_cell : ∀ xs out, R_l_cell xs out → xs.length = ["_law_script", "_law_k"].length := by rintro _ _ ⟨x, y, rfl, _⟩; rfl
theorem atI_scr {ns : List Int} {k : Int} (h0 : 0 ≤ k) (h1 : k < ns.length) : L2.atI (ns.map D.int) k = some (.int (ns.getD k.toNat 0)) := atI_ints h0 h1
theorem mul_self_ok {m : Int} (h0 : 0 ≤ m) (h1 : m < 2147483647) : CMul m m := .inl ⟨by omega, by omega⟩
theorem sd_l_cell (h : R_l_cell xs out) : SDef K E (t_l_cell K) (slots N_l_cell.length xs) out := by
  obtain ⟨ns, k, rfl, hl, rfl⟩ := h
  show SD K E (t_l_cell K) [.d (scrD ns), .d (.int k), .un, .un] _ _ _ _ _
  unfold t_l_cell
  walk_at "sd"
  walk_at "sd"
  walk_at "sd"
  have tail : ∀ c : Int, cell ns k = (let m := c % 2147483647; let m := m * m % 2147483629; (m * m + 69621 * m + k) % 2147483587) → SD K E (tSeq (tAsg (tOp (rI (fun _ j => 0 < j) fun i j => .int (i % j)) (tVar 2) (tC (.int 2147483647))) (gName 3))
  (tSeq (tAsg (tOp (rI (fun _ j => 0 < j) fun i j => .int (i % j)) (tOp (rMulU K) (tVar 3) (tVar 3)) (tC (.int 2147483629))) (gName 3))
  (tRet (tOp (rI (fun _ j => 0 < j) fun i j => .int (i % j)) (tOp (rAddU K) (tOp (rAddU K) (tOp (rMulU K) (tVar 3) (tVar 3)) (tOp (rMulU K) (tC (.int 69621)) (tVar 3))) (tVar 1)) (tC (.int 2147483587)))))) [.d (scrD ns), .d (.int k), .d (.int c), .un] (fun _ => Out.ret (.d (.int (cell ns k))) = .ret (.d .non)) (Fits (.ret (.d (.int (cell ns k))))) NoS NoS (fun _ a fs => Out.ret (.d (.int (cell ns k))) = .exc a fs) := by
    intro c hc
    have m0 := Int.emod_nonneg c (b := 2147483647) (by decide)
    have m1 := Int.emod_lt_of_pos c (b := 2147483647) (by decide)
    have n0 := Int.emod_nonneg (c % 2147483647 * (c % 2147483647)) (b := 2147483629) (by decide)
    have n1 := Int.emod_lt_of_pos (c % 2147483647 * (c % 2147483647)) (b := 2147483629) (by decide)
    walk_at "sd"
    walk_at "sd"
    walk_at "sd"
    walk_at "sd"
    walk_at "sd"
    rw [hc]
    exact .inl rfl
  match ns, hl with
  | [], _ =>
    walk_at "sd"
    walk_at "sd"
    exact tail _ rfl
  | n :: r, hl =>
    have hp : (0 : Int) < ((List.map D.int (n :: r)).length : Int) := by simp only [List.length_map, List.length_cons]; omega
    have hq : ((List.map D.int (n :: r)).length : Int) = ((n :: r).length : Int) := by rw [List.length_map]
    have hk0 := Int.emod_nonneg k (b := ((n :: r).length : Int)) (by simp only [List.length_cons]; omega)
    have hk1 := Int.emod_lt_of_pos k (b := ((n :: r).length : Int)) (by simp only [List.length_cons]; omega)
    have hat : L2.atI (List.map D.int (n :: r)) (k % ((List.map D.int (n :: r)).length : Int)) = some (.int ((n :: r).getD (k % ((n :: r).length : Int)).toNat 0)) := by rw [hq]; exact atI_ints hk0 hk1
    have hdv : CDivW k ((List.map D.int (n :: r)).length : Int) := cdiv_small (by omega) (by simp only [List.length_cons] at hl; simp only [List.length_map, List.length_cons]; omega)
    walk_at "sd"
    walk_at "sd"
    walk_at "sd"
    walk_at "sd"
    refine tail _ ?_
    rw [hq]; rfl

end
section
variable {K : PySem.W.Frag} (E : WX) {xs : List D} {out : Out}
theorem hl_l_value : ∀ xs out, R_l_value xs out → xs.length = ["_law_cell_here"].length := by rintro _ _ ⟨x, rfl, _⟩; rfl
theorem sd_l_value (h : R_l_value xs out) : SDef K E (t_l_value K) (slots N_l_value.length xs) out := by
  obtain ⟨c, rfl, h0, h1, rfl⟩ := h
  show SD K E (t_l_value K) [.d (.int c), .un, .un] _ _ _ _ _
  unfold t_l_value
  walk_at "sd"
  walk_at "sd"
  walk_at "sd"
  refine sd_rng1 (n := 7) (by walk_at "ev") (by decide) (by decide) (fun i => [.d (.int c), .d (.int (farS c (10 ^ 60) i)), .un]) (by walk_at "weak") (fun i hi => ?_) ?_
  · have hm : (0 : Int) < 10 ^ (60 : Int).toNat := by decide
    have hc : CMul (farS c (10 ^ 60) i) (c + (i : Int)) := .inr ⟨by omega, by omega⟩
    refine ⟨_, by walk_at "ev", ?_⟩
    walk_at "sd"
    walk_at "weak"
  · have q := emod_in c (m := 10) (by decide)
    have hat := tell_at (ring := valueL c) q.1 q.2
    walk_at "sd"
    exact .inl rfl

end
section
variable {K : PySem.W.Frag} (E : WX) {xs : List D} {out : Out}
theorem hl_l_place : ∀ xs out, R_l_place xs out → xs.length = ["_law_cell_here"].length := by rintro _ _ ⟨x, rfl, _⟩; rfl
theorem sd_l_place (h : R_l_place xs out) : SDef K E (t_l_place K) (slots N_l_place.length xs) out := by
  obtain ⟨c, rfl, h0, h1, rfl⟩ := h
  show SD K E (t_l_place K) [.d (.int c), .un, .un] _ _ _ _ _
  unfold t_l_place
  walk_at "sd"
  walk_at "sd"
  walk_at "sd"
  refine sd_rng1 (n := 4) (by walk_at "ev") (by decide) (by decide) (fun i => [.d (.int c), .d (.int (farS c (10 ^ 30) i)), .un]) (by walk_at "weak") (fun i hi => ?_) ?_
  · have hm : (0 : Int) < 10 ^ (30 : Int).toNat := by decide
    have hc : CMul (farS c (10 ^ 30) i) (c + (i : Int)) := .inr ⟨by omega, by omega⟩
    refine ⟨_, by walk_at "ev", ?_⟩
    walk_at "sd"
    walk_at "weak"
  · have q := emod_in c (m := 6) (by decide)
    have hat := atI_ints (xs := placeL c) q.1 q.2
    walk_at "sd"
    exact .inl rfl

end
section
variable {K : PySem.W.Frag} (E : WX) {xs : List D} {out : Out}
local macro_rules | `(tactic| walk_at "call") => `(tactic| first | exact ⟨_, _, rfl, by assumption, rfl⟩ | exact ⟨_, rfl, (cell_pos _ _).1, (cell_pos _ _).2, rfl⟩ | exact ⟨_, rfl, by assumption, by assumption, rfl⟩)
theorem hl_l_ring : ∀ xs out, R_l_ring xs out → xs.length = ["_law_script", "_law_k"].length := by rintro _ _ ⟨x, y, rfl, _⟩; rfl
theorem sd_l_ring (h : R_l_ring xs out) : SDef K E (t_l_ring K) (slots N_l_ring.length xs) out := by
  obtain ⟨ns, k, rfl, hns, rfl⟩ := h
  show SD K E (t_l_ring K) [.d (scrD ns), .d (.int k), .un, .un, .un, .un, .un] _ _ _ _ _
  unfold t_l_ring
  walk_at "sd"
  walk_at "sd"
  have hF : Out.ret (.d (.tup (vsD (ringF ns k)))) = Out.ret (.d (.tup (List.replicate (ringK (cell ns k)).toNat (vsD (ringB ns k (ringN (cell ns k))))).flatten)) := by
    have e : (List.replicate (ringK (cell ns k)).toNat (vsD (ringB ns k (ringN (cell ns k))))).flatten = vsD (ringF ns k) := by
      unfold ringF vsD
      rw [List.map_flatten, List.map_replicate]
    rw [e]
  rw [hF]
  have hB : ∀ m : Nat, ringB ns k (m + 1) = ringB ns k m ++ [ringItem ns k (cell ns k) m] := fun m => by
    unfold ringB; rw [List.range_succ, List.map_append]; rfl
  have hI : ∀ j : Int, ringItem ns k (cell ns k) j = if cell ns k / 108 % 3 / 2 = 0 then fewL.getD (cell ns (k + 1 + j) % (([2, 3, 4] : List Int).getD (cell ns k / 36 % 3).toNat 0)).toNat none else valueF (cell ns (k + 1 + j)) := fun j => rfl
  have hN : (1 + cell ns k % (([3, 6, 12] : List Int).getD (cell ns k / 12 % 3).toNat 0)).toNat = ringN (cell ns k) := rfl
  have hK : ([1, 1, 2, 3] : List Int).getD (cell ns k / 324 % 4).toNat 0 = ringK (cell ns k) := rfl
  have hNi := ringN_in (cell ns k)
  have hKi := ringK_cases (cell ns k)
  have hc := cell_pos ns k
  have hm := fun i => cell_pos ns i
  generalize cell ns k = c at *
  walk_at "sd"
  walk_at "sd"
  walk_at "sd"
  refine sd_set (s := .own (vsD (ringB ns k 0))) (ev_is (ev_lst ea_nil (by walk_at "side")) rfl) (by walk_at "lt") ?_
  walk_at "sd"
  have q3 := emod_in (c / 12) (m := 3) (by decide)
  have hat3 := atI_ints (xs := [3, 6, 12]) q3.1 q3.2
  have h3 := pick3 [3, 6, 12] (c / 12) 3 6 12 rfl
  have q4 := emod_in (c / 324) (m := 4) (by decide)
  have hat4 := atI_ints (xs := [1, 1, 2, 3]) q4.1 q4.2
  rw [hK] at hat4
  generalize hd : ([3, 6, 12] : List Int).getD (c / 12 % 3).toNat 0 = d at *
  have hd0 : 0 < d := by omega
  have hdm := emod_in c hd0
  refine sd_rng1 (n := 1 + c % d) (by walk_at "ev") (by omega) (by omega) (fun i => [.d (scrD ns), .d (.int k), .d (.int c), .d (.lst (vsD fewL)), .own (vsD (ringB ns k i)), .un, .un]) (by walk_at "weak") (fun i hi => ?_) ?_
  · refine ⟨_, by walk_at "ev", ?_⟩
    walk_at "sd"
    walk_at "sd"
    have hmi := hm (k + 1 + (i : Int))
    generalize hmm : cell ns (k + 1 + (i : Int)) = m at *
    obtain ⟨hm0, hm1⟩ := hmi
    have q2 := emod_in (c / 36) (m := 3) (by decide)
    have hat2 := atI_ints (xs := [2, 3, 4]) q2.1 q2.2
    have h2 := pick3 [2, 3, 4] (c / 36) 2 3 4 rfl
    have hIi := hI (i : Int)
    rw [hmm] at hIi
    generalize ([2, 3, 4] : List Int).getD (c / 36 % 3).toNat 0 = e at *
    have he0 : 0 < e := by omega
    have hem := emod_in m he0
    have hatf := tell_at (ring := fewL) (q := m % e) hem.1 (by show m % e < 4; omega)
    have hlen : (vsD (ringB ns k i)).length < sizeLine := by
      rw [len_vsD]; unfold ringB; rw [List.length_map, List.length_range, sizeLine_eq]; omega
    have hb : c / 108 % 3 / 2 = 0 ∨ c / 108 % 3 / 2 = 1 := by omega
    have hx : D.tup [] = D.tup [] := rfl
    refine sd_append (x := dE (ringItem ns k c (i : Int))) rfl ?_ hlen ?_
    · rw [hIi]
      rcases hb with hb | hb
      · rw [if_pos hb]
        have hatp : L2.atI [dE (fewL.getD (m % e).toNat none), dE (valueF m)] (c / 108 % 3 / 2) = some (dE (fewL.getD (m % e).toNat none)) := by rw [hb]; rfl
        walk_at "ev"
      · rw [if_neg (by omega)]
        have hatp : L2.atI [dE (fewL.getD (m % e).toNat none), dE (valueF m)] (c / 108 % 3 / 2) = some (dE (valueF m)) := by rw [hb]; rfl
        walk_at "ev"
    · have e1 : vsD (ringB ns k (i + 1)) = vsD (ringB ns k i) ++ [dE (ringItem ns k c (i : Int))] := by rw [hB]; unfold vsD; rw [List.map_append]; rfl
      rw [e1]
      walk_at "weak"
  · rw [hN]
    have hsz : (vsD (ringB ns k (ringN c))).length * (ringK c).toNat ≤ sizeLine := by
      rw [len_vsD]; unfold ringB; rw [List.length_map, List.length_range, sizeLine_eq]
      rcases hKi with e | e | e <;> rw [e] <;> simp <;> omega
    generalize hys : vsD (ringB ns k (ringN c)) = ys at *
    refine sd_frzAt (i := 4) rfl ?_
    refine sd_ret (ev_cb (ea_cons (ev_frz (ev_op (x := .lst ys) (y := .int (ringK c)) (by walk_at "ev") (by walk_at "ev") (mul_lst (by omega) (by omega) hsz))) ea_nil) tuple_lst) (.inl rfl)

end
section
variable {K : PySem.W.Frag} (E : WX) {xs : List D} {out : Out}
theorem hl_l_least : ∀ xs out, R_l_least xs out → xs.length = ["_law_ring_here"].length := by rintro _ _ ⟨x, rfl, _⟩; rfl
theorem sd_l_least (h : R_l_least xs out) : SDef K E (t_l_least K) (slots N_l_least.length xs) out := by
  obtain ⟨r, rfl, hne, hl, rfl⟩ := h
  show SD K E (t_l_least K) [.d (.tup (vsD r)), .un] _ _ _ _ _
  unfold t_l_least
  have hp : 0 < r.length := List.length_pos_iff.mpr hne
  have hv := len_vsD r
  walk_at "sd"
  refine sd_rng2P (m := 1) (n := ((vsD r).length : Int) + 1) (fun i => ∀ j, j < i → fitsR r (j + 1) = false) (fun j hj => by omega) (by walk_at "ev") ⟨by omega, by omega, by omega, by omega⟩ (fun _ => [.d (.tup (vsD r)), .un]) (by walk_at "weak") (fun i hi hP => ?_) (fun hP => ?_)
  · refine ⟨_, by walk_at "ev", ?_⟩
    rw [hv] at hi
    have hm : (0 : Int) < 1 + (i : Int) := by omega
    have hcast : ((r.length : Int) % (1 + (i : Int)) = 0) = (r.length % (i + 1) = 0) := by
      have e : (r.length : Int) % (1 + (i : Int)) = ((r.length % (i + 1) : Nat) : Int) := by push_cast; rw [Int.add_comm]
      rw [e]; exact propext ⟨fun z => by omega, fun z => by omega⟩
    have ht : EB K (tAnd (tTest (tOp (rEqU K) (tOp (rI (fun _ j => 0 < j) fun i j => .int (i % j)) (tCB (rLenU K) (tCons (tVar 0) tNil)) (tVar 1)) (tC (.int 0)))) (tTest (tOp (rEqU K) (tVar 0) (tOp (rMulU K) (tSl (rSlU K) (tVar 0) tNoPart (tPart (tVar 1))) (tOp (rI CDivW fun i j => .int (i / j)) (tCB (rLenU K) (tCons (tVar 0) tNil)) (tVar 1)))))) [.d (.tup (vsD r)), .d (.int (1 + (i : Int)))] (fitsR r (i + 1)) := by
      have hb1 : EB K (tTest (tOp (rEqU K) (tOp (rI (fun _ j => 0 < j) fun i j => .int (i % j)) (tCB (rLenU K) (tCons (tVar 0) tNil)) (tVar 1)) (tC (.int 0)))) [.d (.tup (vsD r)), .d (.int (1 + (i : Int)))] (decide (r.length % (i + 1) = 0)) := eb_is (by walk_at "ev") (by rw [hv]; exact decide_eq_decide.mpr (iff_of_eq hcast))
      refine eb_is (eb_and (a := decide (r.length % (i + 1) = 0)) (b := decide (r = (List.replicate (r.length / (i + 1)) (r.take (i + 1))).flatten)) hb1 (fun hd => ?_)) rfl
      · rw [decide_eq_true_eq] at hd
        obtain ⟨q, hq⟩ := Nat.dvd_of_mod_eq_zero hd
        have hq0 : 0 < q := Nat.pos_of_ne_zero fun z => by rw [z, Nat.mul_zero] at hq; omega
        have hdiv : r.length / (i + 1) = q := by rw [hq, Nat.mul_div_cancel_left _ (by omega)]
        have hdi : (r.length : Int) / (1 + (i : Int)) = (q : Int) := by rw [← hdiv]; push_cast; rw [Int.add_comm]
        have hte : (r.take (i + 1)) ≠ [] := fun z => by
          have h5 := congrArg List.length z
          rw [List.length_take, List.length_nil] at h5
          omega
        have e0 : ((1 + (i : Int)).toNat) = i + 1 := by omega
        have hc : CDivW (r.length : Int) (1 + (i : Int)) := cdiv_small hm (by omega)
        have s1 := to_vsT (K := K) (δ := [.d (.tup (vsD r)), .d (.int (1 + (i : Int)))]) (te := tVar 0) (tp := tVar 1) (a := r) (m := 1 + (i : Int)) (ev_var rfl) (ev_var rfl) (by omega)
        rw [e0] at s1
        have s2 : EV K (tOp (rI CDivW fun i j => .int (i / j)) (tCB (rLenU K) (tCons (tVar 0) tNil)) (tVar 1)) [.d (.tup (vsD r)), .d (.int (1 + (i : Int)))] (.d (.int (q : Int))) := by
          rw [← hdi, ← hv] at *
          walk_at "ev"
        have hsz : (r.take (i + 1)).length * (q : Int).toNat ≤ 1000000 := by
          rw [Int.toNat_natCast, List.length_take, Nat.min_eq_left (by omega), ← hq]; omega
        have hqle : q ≤ r.length := by rw [hq]; exact Nat.le_mul_of_pos_left _ (by omega)
        have s3 := ev_op s1 s2 (rep_vsT hte (by omega) hsz (by omega))
        have s4 := ev_op (ev_var (i := 0) rfl) s3 (eq_vsT _ _)
        rw [Int.toNat_natCast] at s4
        refine eb_test (ev_is s4 ?_)
        rw [hdiv]
    refine sd_if ht (fun h1 => ?_) (fun h1 => ?_)
    · have s1 := to_vsT (K := K) (δ := [.d (.tup (vsD r)), .d (.int (1 + (i : Int)))]) (te := tVar 0) (tp := tVar 1) (a := r) (m := 1 + (i : Int)) (ev_var rfl) (ev_var rfl) (by omega)
      have e : leastR r = r.take (1 + (i : Int)).toNat := by
        unfold leastR; rw [leastN_eq (by omega) h1 hP]; congr 1; omega
      exact sd_ret s1 (.inl (by rw [e]))
    · refine sd_next ⟨fun j hj => ?_, by walk_at "weak"⟩
      rcases Nat.lt_or_ge j i with z | z
      · exact hP j z
      · have : j = i := by omega
        subst this; exact h1
  · have e : leastR r = r := leastR_all hne fun j hj => hP j (by omega)
    rw [e]
    walk_at "sd"
    exact .inl rfl

end
section
variable {K : PySem.W.Frag} (E : WX) {xs : List D} {out : Out}
theorem hl_l_round : ∀ xs out, R_l_round xs out → xs.length = ["_law_ring_here", "_law_place_here"].length := by rintro _ _ ⟨x, p, rfl, _⟩; rfl
theorem sd_l_round (h : R_l_round xs out) : SDef K E (t_l_round K) (slots N_l_round.length xs) out := by
  obtain ⟨ring, p, rfl, hne, hl, rfl⟩ := h
  show SD K E (t_l_round K) [.d (.tup (vsD ring)), .d (.int p)] _ _ _ _ _
  unfold t_l_round
  have e := len_vsD ring
  have hp : (0 : Int) < (vsD ring).length := by have : 0 < ring.length := List.length_pos_iff.mpr hne; omega
  have hp2 : ((vsD ring).length : Int) < 1073741824 := by omega
  have hat := tell_mod hne p
  rw [← e] at hat
  have em : p - p / ((vsD ring).length : Int) * ((vsD ring).length : Int) = p % ((vsD ring).length : Int) := by
    have := Int.mul_ediv_add_emod p ((vsD ring).length : Int)
    rw [Int.mul_comm] at this; omega
  rw [← em] at hat
  have hc : CMul (p / ((vsD ring).length : Int)) ((vsD ring).length : Int) := .inr ⟨by omega, by omega⟩
  walk_at "sd"
  exact .inl rfl

end
section
variable {K : PySem.W.Frag} (E : WX) {xs : List D} {out : Out}
theorem hl_l_alike (n : Nat) : ∀ xs out, Rn_l_alike n xs out → xs.length = ["_law_found", "_law_due"].length := by rintro _ _ ⟨x, rfl, _⟩; rfl
theorem sd_l_alike (n : Nat) (h : Rn_l_alike n xs out) : SDef K E (t_l_alike K (prevR Rn_l_alike n)) (slots N_l_alike.length xs) out := by
  obtain ⟨x, rfl, hp, rfl⟩ := h
  show SD K E (t_l_alike K _) [.d x, .d x, .un] _ _ _ _ _
  unfold t_l_alike
  have flat : flatI x = true → SD K E (t_l_alike K (prevR Rn_l_alike n)) [.d x, .d x, .un] (fun _ => Out.ret (.d (.bl true)) = .ret (.d .non)) (Fits (.ret (.d (.bl true)))) NoS NoS (fun _ c fs => Out.ret (.d (.bl true)) = .exc c fs) := by
    intro hf
    have hk : known x = true := by cases x <;> first | rfl | (simp [flatI] at hf)
    have ht : (isTy x "list" || isTy x "tuple") = false := by cases x <;> first | (simp [flatI] at hf; done) | (simp [isTy_non_tuple, isTy_bl_tuple, isTy_int_tuple, isTy_non_list, isTy_bl_list, isTy_int_list, isTy_str_list])
    unfold t_l_alike
    walk_at "sd"
    refine sd_if0 (eb_tru (by walk_at "ev") (.bl _)) ht ?_
    walk_at "sd"
    walk_at "sd"
    refine sd_if0 (a := false) (eb_is (eb_or (a := false) (b := false) (eb_is (by walk_at "ev") (by simp)) fun _ => eb_is (by walk_at "ev") (by simp)) rfl) rfl ?_
    walk_at "sd"
    refine sd_ret (s := .d (.bl true)) (ev_is (ev_op (by walk_at "ev") (by walk_at "ev") (eq_D (flat_pur hf) (flat_pur hf) (flat_dep hf) (flat_dep hf))) (by rw [eqD_self (flat_pur hf)])) (.inl rfl)
  cases n with
  | zero => exact flat hp
  | succ n =>
    have hp2 : (flatI x || (match (generalizing := false) x with | .tup ys => decide (ys.length ≤ 1000000) && ys.all (plD n) | .lst ys => decide (ys.length ≤ 1000000) && ys.all (plD n) | _ => false)) = true := hp
    cases hf : flatI x with
    | true => exact flat hf
    | false =>
      rw [hf, Bool.false_or] at hp2
      have main : ∀ ys : List D, ys.length ≤ 1000000 → ys.all (plD n) = true → known x = true → (isTy x "list" || isTy x "tuple") = true → RVN K (rLenU K) [x] (.d (.int ys.length)) → (∀ i : Nat, i < ys.length → RV2 K (rIx K) x (.int (i : Int)) (.d (ys.getD i .non))) → SD K E (t_l_alike K (Rn_l_alike n)) [.d x, .d x, .un] (fun _ => Out.ret (.d (.bl true)) = .ret (.d .non)) (Fits (.ret (.d (.bl true)))) NoS NoS (fun _ c fs => Out.ret (.d (.bl true)) = .exc c fs) := by
        intro ys hz hall hk ht hl hix
        unfold t_l_alike
        walk_at "sd"
        refine sd_if1 (eb_tru (by walk_at "ev") (.bl _)) ht ?_
        walk_at "sd"
        refine sd_if0 (a := false) (eb_is (eb_or (a := false) (b := false) (eb_is (by walk_at "ev") (by simp)) fun _ => eb_is (eb_not (eb_tru (by walk_at "ev") (.bl _))) (by rw [ht]; rfl)) rfl) rfl ?_
        walk_at "sd"
        walk_at "sd"
        refine sd_if0 (a := false) (eb_is (eb_test (ev_op (ev_cb (ea_cons (ev_var rfl) ea_nil) hl) (ev_cb (ea_cons (ev_var rfl) ea_nil) hl) ne_int)) (by simp)) rfl ?_
        walk_at "sd"
        refine sd_ret (s := .d (.bl true)) (ev_is (ev_all (ys := List.range ys.length) (h := fun (i : Nat) => D.int (i : Int)) (b := fun _ => true) (ei_is (ei_rngU1 (n := ys.length) (ea_cons (ev_cb (ea_cons (ev_var rfl) ea_nil) hl) ea_nil) (by omega) (by omega)) (rg0 _)) (gok_name (by decide)) (sz (by rw [List.length_range]; omega)) fun i hi => ?_) (by simp)) (.inl rfl)
        have hi' : i < ys.length := List.mem_range.mp hi
        refine ⟨_, by walk_at "ev", ?_⟩
        have hx : plD n (ys.getD i .non) = true := by
          rw [List.getD_eq_getElem?_getD, List.getElem?_eq_getElem hi']
          exact List.all_eq_true.mp hall _ (List.getElem_mem hi')
        refine ev_call (xs := [ys.getD i .non, ys.getD i .non]) (ea_cons (ev_op (ev_var rfl) (ev_var rfl) (hix i hi')) (ea_cons (ev_op (ev_var rfl) (ev_var rfl) (hix i hi')) ea_nil)) ⟨_, rfl, hx, rfl⟩
      have hat : ∀ (ys : List D) (i : Nat), i < ys.length → L2.atI ys (i : Int) = some (ys.getD i .non) := fun ys i hi => by
        have := atI_getD (xs := ys) (i := (i : Int)) (d := D.non) (by omega) (by omega)
        simpa using this
      cases x with
      | tup ys =>
        simp only [Bool.and_eq_true, decide_eq_true_eq] at hp2
        exact main ys hp2.1 hp2.2 rfl (by simp [isTy_tup_tuple]) (by walk_at "rv") fun i hi => ix_tup (hat ys i hi)
      | lst ys =>
        simp only [Bool.and_eq_true, decide_eq_true_eq] at hp2
        exact main ys hp2.1 hp2.2 rfl (by simp [isTy_lst_list]) (by walk_at "rv") fun i hi => ix_lst (hat ys i hi)
      | _ => simp at hp2

end
section
variable {K : PySem.W.Frag} {Z : Zs} [ZF K Z] (E : WX) {xs : List D} {out : Out}
theorem hl_l_refusal : ∀ xs out, R_l_refusal Z xs out → xs.length = ["_law_error"].length := by rintro _ _ ⟨rfl, _⟩; rfl
theorem sd_l_refusal (h : R_l_refusal Z xs out) : SDef K E (t_l_refusal K Z) (slots N_l_refusal.length xs) out := by
  obtain ⟨rfl, rfl⟩ := h
  show SD K E (t_l_refusal K Z) [.d (.exc Z.NoPlace []), .un] _ _ _ _ _
  unfold t_l_refusal
  walk_at "sd"
  walk_at "sd"
  walk_at "sd"
  walk_at "sd"
  walk_at "sd"
  walk_at "sd"
  walk_at "sd"
  refine sd_if0 (a := false) (eb_is (eb_or (a := false) (b := false) (eb_is (eb_test (ev_op (ev_cnt (by walk_at "ev") (by walk_at "ev") rfl rfl) (by walk_at "ev") ne_int)) (by rfl)) fun _ => eb_is (eb_not (eb_tru (by walk_at "ev") (.bl _))) (by rfl)) rfl) rfl ?_
  walk_at "sd"
  have hi : EV K (tBM K "list" (rIndex K) (tVar 1) (tCons (tC (.bl true)) tNil)) [.d (.exc Z.NoPlace []), .d (.lst [.bl false, .bl false, .bl true, .bl false, .bl false, .bl false, .bl false, .bl false])] (.d (.int (2 : Nat))) :=
    ev_idx (z := .bl true) (by walk_at "ev") (by walk_at "ev") rfl rfl rfl rfl (fun m z hm hz => by
      match m, hm with
      | 0, _ => cases hz; rfl
      | 1, _ => cases hz; rfl)
  refine sd_ret (ev_op (by walk_at "ev") hi (ix_lst rfl)) (.inl rfl)

end
section
variable {K : PySem.W.Frag} {Z : Zs} [ZF K Z] (E : WX) {xs : List D} {out : Out}
theorem hl_l_refused : ∀ xs out, R_l_refused xs out → xs.length = ["_law_way", "_law_ring_here", "_law_thing"].length := by rintro _ _ ⟨w, r, x, rfl, _⟩; rfl
local macro_rules | `(tactic| walk_at "call") => `(tactic| first | exact ⟨rfl, rfl⟩)
theorem sd_l_refused (h : R_l_refused xs out) : SDef K E (t_l_refused K Z) (slots N_l_refused.length xs) out := by
  obtain ⟨w, r, x, rfl, hne, hl, hk, hp, rfl⟩ := h
  show SD K E (t_l_refused K Z) [.d (.int w), .d (.tup (vsD r)), .d x, .un, .un] _ _ _ _ _
  unfold t_l_refused
  walk_at "sd"
  walk_at "sd"
  walk_at "sd"
  have mk : ∀ (E' : L2.St → XK), EV K (tMakeS Z.Wheel (spI K Z.Wheel (R_Wheel_init Z)) E' (tCons (tVar 1) tNil)) [.d (.int w), .d (.tup (vsD r)), .d x, .d .non, .un] (.d (wheelD Z r)) := fun E' => ev_makeS (by walk_at "ev") ⟨_, rfl, rfl, known_vsT _, .inl ⟨r, hne, hl, .inl rfl, rfl⟩⟩
  refine sd_try (X1 := fun δ' c fs => δ' = [.d (.int w), .d (.tup (vsD r)), .d x, .d .non, .un] ∧ c = Z.NoPlace ∧ fs = []) (fun W => ?_) (fun δ' c fs h => ?_)
  · refine sd_if (by walk_at "ev") (fun _ => ?_) (fun _ => ?_)
    · exact sd_dropX (c := Z.NoPlace) (cf := []) (ex_callS (xs := [wheelD Z r, x]) (ea_cons (mk _) (by walk_at "ev")) ⟨r, x, rfl, hne, hl, hk, .inr ⟨hp, rfl⟩⟩) ⟨rfl, rfl, rfl⟩
    · exact sd_dropX (c := Z.NoPlace) (cf := []) (ex_callS (xs := [wheelD Z r, x]) (ea_cons (mk _) (by walk_at "ev")) ⟨r, x, rfl, hne, hl, hk, .inr ⟨hp, rfl⟩⟩) ⟨rfl, rfl, rfl⟩
  · obtain ⟨rfl, rfl, rfl⟩ := h
    refine ⟨by walk_at "lt", by walk_at "lt", ZF.exm_NoPlace_FarError, ?_⟩
    show SD K E _ [.d (.int w), .d (.tup (vsD r)), .d x, .d (.exc Z.NoPlace []), .un] _ _ _ _ _
    refine sd_ret (s := .d (.bl true)) (ev_is (ev_andB (a := true) (b := true) (ev_is (by walk_at "ev") (by rfl)) fun _ => ev_is (ev_op (by walk_at "ev") (by walk_at "ev") eq_str) (by rfl)) (by rfl)) (.inl rfl)

end
section
variable {K : PySem.W.Frag} {Z : Zs} [ZF K Z] (E : WX) {xs : List D} {out : Out}
theorem hl_l_same_right : ∀ xs out, R_l_same_right xs out → xs.length = ["_law_ring_here", "_law_other"].length := by rintro _ _ ⟨x, y, rfl, _⟩; rfl
theorem sd_l_same_right (h : R_l_same_right xs out) : SDef K E (t_l_same_right K Z) (slots N_l_same_right.length xs) out := by
  obtain ⟨r, s, rfl, hr, hrl, hs, hsl, rfl⟩ := h
  show SD K E (t_l_same_right K Z) [.d (.tup (vsD r)), .d (.tup (vsD s)), .un, .un] _ _ _ _ _
  unfold t_l_same_right
  walk_at "sd"
  refine sd_setD (x := .bl (decide (leastR r = leastR s))) (ev_op (ev_call (by walk_at "ev") ⟨r, rfl, hr, hrl, rfl⟩) (ev_call (by walk_at "ev") ⟨s, rfl, hs, hsl, rfl⟩) (eq_vsT _ _)) (by walk_at "lt") ?_
  walk_at "sd"
  generalize hb : decide (leastR r = leastR s) = b
  have hb2 : decide (leastR s = leastR r) = b := by rw [← hb]; exact decide_eq_decide.mpr eq_comm
  have m1 : EV K (tMakeS Z.Wheel (spI K Z.Wheel (R_Wheel_init Z)) (fun _ => E0) (tCons (tVar 0) tNil)) [.d (.tup (vsD r)), .d (.tup (vsD s)), .d (.bl b), .un] (.d (wheelD Z r)) := ev_makeS (by walk_at "ev") ⟨_, rfl, rfl, known_vsT _, .inl ⟨r, hr, hrl, .inl rfl, rfl⟩⟩
  have m2 : EV K (tMakeS Z.Wheel (spI K Z.Wheel (R_Wheel_init Z)) (fun _ => E0) (tCons (tVar 1) tNil)) [.d (.tup (vsD r)), .d (.tup (vsD s)), .d (.bl b), .un] (.d (wheelD Z s)) := ev_makeS (by walk_at "ev") ⟨_, rfl, rfl, known_vsT _, .inl ⟨s, hs, hsl, .inl rfl, rfl⟩⟩
  refine sd_setD (x := .lst [.bl b, .bl b]) (ev_frz (ev_lst (ea_cons (ev_call (ea_cons m1 (ea_cons m2 ea_nil)) ⟨r, s, rfl, hr, hrl, hs, hsl, by rw [hb]⟩) (ea_cons (ev_call (ea_cons m2 (ea_cons m1 ea_nil)) ⟨s, r, rfl, hs, hsl, hr, hrl, by rw [hb2]⟩) ea_nil)) (by walk_at "side"))) (by walk_at "lt") ?_
  refine sd_ret (ev_call (xs := [.lst [.bl b, .bl b], .lst [.bl b, .bl b]]) (by walk_at "ev") ⟨_, rfl, rfl, rfl⟩) (.inl rfl)

end
section
variable {K : PySem.W.Frag} {Z : Zs} [ZF K Z] (E : WX) {xs : List D} {out : Out}
theorem hl_l_great_right : ∀ xs out, R_l_great_right xs out → xs.length = ["_law_cell_here"].length := by rintro _ _ ⟨x, rfl, _⟩; rfl
theorem repL {δ : List S} {ta tk : TE} {o : Option Int} {k : Int} (h : EV K ta δ (.d (dE o))) (h2 : EV K tk δ (.d (.int k))) (h0 : 0 ≤ k) (h1 : k ≤ 4000) : EV K (tOp (rMulU K) (tLst (tCons ta tNil)) tk) δ (.d (.lst (vsD (List.replicate k.toNat o)))) := by
  have z := ev_frz (ev_op (ev_frz (ev_lst (ea_cons h ea_nil) (by walk_at "side"))) h2 (mul_lst (by omega) (by omega) (by rw [sizeLine_eq]; simp; omega)))
  have e : (List.replicate k.toNat [dE o]).flatten = vsD (List.replicate k.toNat o) := by
    rw [flat1]; unfold vsD; rw [List.map_replicate]
  rw [e] at z; exact z
theorem catL {δ : List S} {ta tb : TE} {a b : List (Option Int)} (h : EV K ta δ (.d (.lst (vsD a)))) (h2 : EV K tb δ (.d (.lst (vsD b)))) (hl : a.length + b.length ≤ 10000) : EV K (tOp (rAddU K) ta tb) δ (.d (.lst (vsD (a ++ b)))) := by
  have z := ev_frz (ev_op h h2 (add_lst (sz (by rw [len_vsD, len_vsD]; omega))))
  rw [← vsD_app] at z; exact z
theorem oneL {δ : List S} {ta : TE} {o : Option Int} (h : EV K ta δ (.d (dE o))) : EV K (tLst (tCons ta tNil)) δ (.d (.lst (vsD [o]))) := ev_frz (ev_lst (ea_cons h ea_nil) (by walk_at "side"))
theorem sd_l_great_right (h : R_l_great_right xs out) : SDef K E (t_l_great_right K Z) (slots N_l_great_right.length xs) out := by
  obtain ⟨c, rfl, h0, h1, rfl⟩ := h
  show SD K E (t_l_great_right K Z) [.d (.int c), .un, .un, .un, .un] _ _ _ _ _
  unfold t_l_great_right
  have q := emod_in c (m := 3999) (by decide)
  walk_at "sd"
  walk_at "sd"
  walk_at "sd"
  generalize c % 3999 = a at *
  have q2 := emod_in a (m := 2000) (by decide)
  have w1 : (wholeV a.toNat).length = 3999 := by unfold wholeV; simp; omega
  have w2 : (halfV (a % 2000).toNat).length = 2000 := by unfold halfV; simp; omega
  refine sd_setD (x := .tup (vsD (wholeV a.toNat))) ?_ (by walk_at "lt") ?_
  · have e : (3998 - a).toNat = 3998 - a.toNat := by omega
    have k1 : EV K (tOp (rI0 fun i j => .int (i - j)) (tC (.int 3998)) (tVar 1)) [.d (.int c), .d (.int a), .un, .un, .un] (.d (.int (3998 - a))) := by walk_at "ev"
    have z := catL (catL (repL (o := some 0) (ev_int (K := K) (δ := [.d (.int c), .d (.int a), .un, .un, .un])) (ev_var (i := 1) rfl) q.1 (by omega)) (oneL (o := some 1) ev_int) (by simp; omega)) (repL (o := some 0) ev_int k1 (by omega) (by omega)) (by simp; omega)
    rw [e] at z
    exact ev_cb (ea_cons z ea_nil) tuple_lst
  walk_at "sd"
  refine sd_setD (x := .tup (vsD (halfV (a % 2000).toNat))) ?_ (by walk_at "lt") ?_
  · have e : (1999 - a % 2000).toNat = 1999 - (a % 2000).toNat := by omega
    have k1 : EV K (tOp (rI0 fun i j => .int (i - j)) (tC (.int 1999)) (tOp (rI (fun _ j => 0 < j) fun i j => .int (i % j)) (tVar 1) (tC (.int 2000)))) [.d (.int c), .d (.int a), .d (.tup (vsD (wholeV a.toNat))), .un, .un] (.d (.int (1999 - a % 2000))) := by walk_at "ev"
    have k2 : EV K (tOp (rI (fun _ j => 0 < j) fun i j => .int (i % j)) (tVar 1) (tC (.int 2000))) [.d (.int c), .d (.int a), .d (.tup (vsD (wholeV a.toNat))), .un, .un] (.d (.int (a % 2000))) := by walk_at "ev"
    have z := catL (catL (repL (o := some 5) (ev_int (K := K) (δ := [.d (.int c), .d (.int a), .d (.tup (vsD (wholeV a.toNat))), .un, .un])) k2 q2.1 (by omega)) (oneL (o := none) ev_non) (by simp; omega)) (repL (o := some 5) ev_int k1 (by omega) (by omega)) (by simp; omega)
    rw [e] at z
    exact ev_cb (ea_cons z ea_nil) tuple_lst
  have l1 := whole_least a.toNat
  have l2 := half_least (a % 2000).toNat
  generalize wholeV a.toNat = u at *
  generalize halfV (a % 2000).toNat = v at *
  have hu : u ≠ [] := fun z => by rw [z] at w1; simp at w1
  have hv : v ≠ [] := fun z => by rw [z] at w2; simp at w2
  have hvv : v ++ v ≠ [] := fun z => hv (List.append_eq_nil_iff.mp z).1
  have hvl : (v ++ v).length = 4000 := by rw [List.length_append]; omega
  walk_at "sd"
  have d2 : EV K (tOp (rMulU K) (tVar 3) (tC (.int 2))) [.d (.int c), .d (.int a), .d (.tup (vsD u)), .d (.tup (vsD v)), .un] (.d (.tup (vsD (v ++ v)))) := by
    have z := ev_op (ev_var (K := K) (δ := [.d (.int c), .d (.int a), .d (.tup (vsD u)), .d (.tup (vsD v)), .un]) (i := 3) rfl) (ev_int (i := 2)) (rep_vsT hv (by decide) (by rw [w2]; decide) (by decide))
    have e : (List.replicate (2 : Int).toNat v).flatten = v ++ v := by show (List.replicate 2 v).flatten = _; simp [List.replicate_succ]
    rw [e] at z; exact z
  have f1 := ev_fld (ev_call (R := R_least_wheel Z) (E := E0) (ea_cons (ev_makeS (R := R_Wheel_init Z) (E := fun _ => E0) (C := Z.Wheel) (ea_cons (ev_var (K := K) (δ := [.d (.int c), .d (.int a), .d (.tup (vsD u)), .d (.tup (vsD v)), .un]) (i := 2) rfl) ea_nil) ⟨_, rfl, rfl, known_vsT _, .inl ⟨u, hu, by omega, .inl rfl, rfl⟩⟩) ea_nil) ⟨u, rfl, hu, by omega, rfl⟩) ZF.ins_Wheel.cl ZF.na_Wheel_ring lk_one
  have f2 := ev_fld (ev_call (R := R_least_wheel Z) (E := E0) (ea_cons (ev_makeS (R := R_Wheel_init Z) (E := fun _ => E0) (C := Z.Wheel) (ea_cons d2 ea_nil) ⟨_, rfl, rfl, known_vsT _, .inl ⟨v ++ v, hvv, by omega, .inl rfl, rfl⟩⟩) ea_nil) ⟨v ++ v, rfl, hvv, by omega, rfl⟩) ZF.ins_Wheel.cl ZF.na_Wheel_ring lk_one
  rw [l1] at f1
  rw [l2] at f2
  refine sd_setD (x := .lst [.tup (vsD u), .tup (vsD v)]) (ev_frz (ev_lst (ea_cons f1 (ea_cons f2 ea_nil)) (by walk_at "side"))) (by walk_at "lt") ?_
  refine sd_ret (ev_call (xs := [.lst [.tup (vsD u), .tup (vsD v)], .lst [.tup (vsD u), .tup (vsD v)]]) (by walk_at "ev") ⟨_, rfl, ?_, rfl⟩) (.inl rfl)
  show (false || (decide (2 ≤ 1000000) && (plD 1 (.tup (vsD u)) && (plD 1 (.tup (vsD v)) && true)))) = true
  rw [pl_vsT 0 u (by omega), pl_vsT 0 v (by omega)]
  rfl

end
section
variable {K : PySem.W.Frag} {Z : Zs} [ZF K Z] (E : WX) {xs : List D} {out : Out}
theorem hl_law : ∀ xs out, R_law xs out → xs.length = ["_law_script"].length := by rintro _ _ ⟨x, rfl, _⟩; rfl
local macro_rules | `(tactic| walk_at "call") => `(tactic| first | exact ⟨_, _, rfl, by assumption, rfl⟩ | exact ⟨_, rfl, by assumption, by assumption, rfl⟩ | exact ⟨_, _, rfl, by assumption, by assumption, rfl⟩ | exact ⟨_, rfl, pl_vsT _ _ (by assumption), rfl⟩ | exact ⟨_, rfl, plD_dE _ _, rfl⟩)
abbrev lawW (ns : List Int) : List S → Prop := fun δ' => weak δ' [.d (scrD ns), .un, .un, .un, .un, .un, .un, .un, .un, .un, .un]
abbrev lawX : List S → Addr → List (Str × D) → Prop := fun _ c fs => Out.ret (.d (.bl true)) = .exc c fs
abbrev lawR : S → Prop := Fits (.ret (.d (.bl true)))
section
variable {B : List S → Prop} {ns : List Int} {i c : Int} {ring : List (Option Int)}
theorem tail4 {w a b o p q r : S} (hne : ring ≠ []) (hl : ring.length ≤ 4000) : SD K E (t_law_c4 K) [.d (scrD ns), .d (.int i), .d (.int c), .d (.tup (vsD ring)), w, a, b, o, p, q, r] (lawW ns) lawR B (lawW ns) lawX := by
  unfold t_law_c4
  have q8 := emod_in (c / 14) (m := 6) (by decide)
  have hat : L2.atI [D.non, .bl true, .str "3", .tup [.int 3], .lst [], .bl false] (c / 14 % 6) = some ([D.non, .bl true, .str "3", .tup [.int 3], .lst [], .bl false].getD (c / 14 % 6).toNat .non) := atI_getD q8.1 q8.2
  have hk : known ([D.non, .bl true, .str "3", .tup [.int 3], .lst [], .bl false].getD (c / 14 % 6).toNat .non) = true ∧ isPl ([D.non, .bl true, .str "3", .tup [.int 3], .lst [], .bl false].getD (c / 14 % 6).toNat .non) = false := by
    have h8 : [D.non, .bl true, .str "3", .tup [.int 3], .lst [], .bl false].all (fun x => known x && !isPl x) = true := by
      simp [known, isTy_non_int, isTy_bl_int, isTy_bl_bool, isTy_str_int, isTy_tup_int, isTy_lst_int]
    have h : (c / 14 % 6).toNat < [D.non, .bl true, .str "3", .tup [.int 3], .lst [], .bl false].length := by show _ < 6; omega
    rw [List.getD_eq_getElem?_getD, List.getElem?_eq_getElem h]
    have := List.all_eq_true.mp h8 _ (List.getElem_mem h)
    rw [Bool.and_eq_true, Bool.not_eq_true'] at this
    exact this
  generalize [D.non, .bl true, .str "3", .tup [.int 3], .lst [], .bl false].getD (c / 14 % 6).toNat .non = x at *
  refine sd_if0 (a := false) (eb_is (eb_not (eb_tru (ev_call (xs := [.int (c / 7 % 2), .tup (vsD ring), x]) (ea_cons (by walk_at "ev") (ea_cons (by walk_at "ev") (ea_cons (by walk_at "ev") ea_nil))) ⟨_, _, _, rfl, hne, hl, hk.1, hk.2, rfl⟩) (.bl _))) rfl) rfl ?_
  refine sd_next ?_
  walk_at "weak"
theorem round_lc {δ : List S} {ts : TE} {f : Nat → Int} (hne : ring ≠ []) (hl : ring.length ≤ 4000) (h3 : δ[3]? = some (.d (.tup (vsD ring)))) (h10 : ∀ i : Nat, ∃ δ2, ET K (gName 10) (hide δ [10]) (.int (i : Int)) δ2 ∧ EV K ts δ2 (.d (.int (f i))) ∧ δ2[3]? = some (.d (.tup (vsD ring)))) :
    EV K (tCB (rTupU K) (tCons (tLc (iRngU1 (tCons (tCB (rLenU K) (tCons (tVar 3) tNil)) tNil)) (gName 10) tYes (tCall (spD K R_l_round) [] E0 (tCons (tVar 3) (tCons ts tNil))) [10]) tNil)) δ (.d (.tup (vsD ((List.range ring.length).map fun i => tell ring (f i))))) := by
  have hv := len_vsD ring
  have z := ev_frz (ev_lcR1 (K := K) (δ := δ) (n := ((vsD ring).length : Int)) (tr := tCons (tCB (rLenU K) (tCons (tVar 3) tNil)) tNil) (g := gName 10) (vs := [10]) (te := tCall (spD K R_l_round) [] E0 (tCons (tVar 3) (tCons ts tNil))) (f := fun i => dE (tell ring (f i)))
    (ea_cons (ev_cb (ea_cons (ev_var h3) ea_nil) len_tup) ea_nil) (by omega) (by omega) (sz (by omega)) (gok_name (by decide)) fun i hi => by
      obtain ⟨δ2, k1, k2, k3⟩ := h10 i
      exact ⟨δ2, k1, ev_call (ea_cons (ev_var k3) (ea_cons k2 ea_nil)) ⟨_, _, rfl, hne, hl, rfl⟩⟩)
  have e : (List.range ((vsD ring).length : Int).toNat).map (fun i : Nat => dE (tell ring (f i))) = vsD ((List.range ring.length).map fun i => tell ring (f i)) := by
    unfold vsD; rw [List.map_map, Int.toNat_natCast, List.length_map]; rfl
  rw [e] at z
  exact ev_cb (ea_cons z ea_nil) tuple_lst
theorem tail3 (hc0 : 0 ≤ c) (hc1 : c < 2147483587) (hne : ring ≠ []) (hl : ring.length ≤ 4000) : SD K E (t_law_c3 K Z) [.d (scrD ns), .d (.int i), .d (.int c), .d (.tup (vsD ring)), .d (wheelD Z ring), .un, .un, .un, .un, .un, .un] (lawW ns) lawR B (lawW ns) lawX := by
  unfold t_law_c3
  have hp0 : 0 ≤ c / 100 := by omega
  have hp1 : c / 100 < 2147483587 := by omega
  have hp : 0 < ring.length := List.length_pos_iff.mpr hne
  walk_at "sd"
  walk_at "sd"
  generalize place (c / 100) = y
  have m1 : (movedV ring y).length = ring.length := by unfold movedV; rw [List.length_map, List.length_range]
  have m2 : movedV ring y ≠ [] := fun z => by rw [z] at m1; simp at m1; omega
  have n1 : (mirrV ring y).length = ring.length := by unfold mirrV; rw [List.length_map, List.length_range]
  have n2 : mirrV ring y ≠ [] := fun z => by rw [z] at n1; simp at n1; omega
  walk_at "sd"
  refine sd_setD (x := .tup (vsD (movedV ring y))) (round_lc (f := fun i => (i : Int) - y) hne hl rfl fun i => ⟨_, by walk_at "ev", by walk_at "ev", rfl⟩) (by walk_at "lt") ?_
  walk_at "sd"
  have q1 : (leastR (movedV ring y)).length ≤ 1000000 := by have := leastR_le m2; omega
  have q2 : (leastR (mirrV ring y)).length ≤ 1000000 := by have := leastR_le n2; omega
  refine sd_if0 (a := false) (eb_is (eb_not (eb_tru (ev_call (xs := [.tup (vsD (leastR (movedV ring y))), .tup (vsD (leastR (movedV ring y)))]) (ea_cons (ev_fld (ev_call (xs := [wheelD Z ring, .int y]) (by walk_at "ev") ⟨_, _, rfl, hne, hl, rfl, .inl ⟨_, rfl, rfl⟩⟩) ZF.ins_Wheel.cl ZF.na_Wheel_ring lk_one) (ea_cons (ev_call (by walk_at "ev") ⟨_, rfl, m2, by omega, rfl⟩) ea_nil)) ⟨_, rfl, pl_vsT _ _ q1, rfl⟩) (.bl _))) rfl) rfl ?_
  walk_at "sd"
  walk_at "sd"
  refine sd_setD (x := .tup (vsD (mirrV ring y))) (round_lc (f := fun i => y - (i : Int)) hne hl rfl fun i => ⟨_, by walk_at "ev", by walk_at "ev", rfl⟩) (by walk_at "lt") ?_
  walk_at "sd"
  refine sd_if0 (a := false) (eb_is (eb_not (eb_tru (ev_call (xs := [.tup (vsD (leastR (mirrV ring y))), .tup (vsD (leastR (mirrV ring y)))]) (ea_cons (ev_fld (ev_call (xs := [wheelD Z ring, .int y]) (by walk_at "ev") ⟨_, _, rfl, hne, hl, rfl, .inl ⟨_, rfl, rfl⟩⟩) ZF.ins_Wheel.cl ZF.na_Wheel_ring lk_one) (ea_cons (ev_call (by walk_at "ev") ⟨_, rfl, n2, by omega, rfl⟩) ea_nil)) ⟨_, rfl, pl_vsT _ _ q2, rfl⟩) (.bl _))) rfl) rfl ?_
  walk_at "sd"
  exact tail4 E hne hl
theorem tail2 (hc0 : 0 ≤ c) (hc1 : c < 2147483587) (hne : ring ≠ []) (hl : ring.length ≤ 253) : SD K E (t_law_c2 K Z) [.d (scrD ns), .d (.int i), .d (.int c), .d (.tup (vsD ring)), .d (wheelD Z ring), .un, .un, .un, .un, .un, .un] (lawW ns) lawR B (lawW ns) lawX := by
  unfold t_law_c2
  have hp : 0 < ring.length := List.length_pos_iff.mpr hne
  have hv := len_vsD ring
  have hlp : (0 : Int) < ((vsD ring).length : Int) := by omega
  have h80 : 0 ≤ c / 8 := by omega
  have h81 : c / 8 < 2147483587 := by omega
  have q := emod_in (c / 4) hlp
  walk_at "sd"
  walk_at "sd"
  generalize c / 4 % ((vsD ring).length : Int) = a at *
  have hd : ((ring.drop (a + 1).toNat).length) ≤ 253 := by rw [List.length_drop]; omega
  have ht : ((ring.take a.toNat).length) ≤ 253 := by rw [List.length_take]; omega
  walk_at "sd"
  refine sd_setD (x := .tup (vsD (ring.take a.toNat ++ [valueF (c / 8)] ++ ring.drop (a + 1).toNat))) ?_ (by walk_at "lt") ?_
  · rw [vsD_app, vsD_app]
    refine ev_op (x := .tup (vsD (ring.take a.toNat) ++ vsD [valueF (c / 8)])) (ev_op (x := .tup (vsD (ring.take a.toNat))) (y := .tup (vsD [valueF (c / 8)])) (to_vsT (by walk_at "ev") (by walk_at "ev") q.1) (ev_tup (ea_cons (ev_call (xs := [.int (c / 8)]) (by walk_at "ev") ⟨_, rfl, h80, h81, rfl⟩) ea_nil) (by walk_at "side")) (add_tup (sz (by rw [len_vsD, len_vsD]; simp only [List.length_cons, List.length_nil]; omega)))) (from_vsT (by walk_at "ev") (by walk_at "ev") (by omega)) (add_tup (sz (by rw [List.length_append, len_vsD, len_vsD, len_vsD]; simp only [List.length_cons, List.length_nil]; omega)))
  walk_at "sd"
  have bl : (ring.take a.toNat ++ [valueF (c / 8)] ++ ring.drop (a + 1).toNat).length ≤ 4000 := by simp only [List.length_append, List.length_cons, List.length_nil]; omega
  have bn : ring.take a.toNat ++ [valueF (c / 8)] ++ ring.drop (a + 1).toNat ≠ [] := by simp
  generalize ring.take a.toNat ++ [valueF (c / 8)] ++ ring.drop (a + 1).toNat = bent at *
  have r2n : ((List.replicate (2 : Int).toNat ring).flatten) ≠ [] := by show (List.replicate 2 ring).flatten ≠ []; simp [List.replicate_succ, hne]
  have r3n : ((List.replicate (3 : Int).toNat ring).flatten) ≠ [] := by show (List.replicate 3 ring).flatten ≠ []; simp [List.replicate_succ, hne]
  have r2l : ((List.replicate (2 : Int).toNat ring).flatten).length ≤ 4000 := by show ((List.replicate 2 ring).flatten).length ≤ 4000; simp; omega
  have r3l : ((List.replicate (3 : Int).toNat ring).flatten).length ≤ 4000 := by show ((List.replicate 3 ring).flatten).length ≤ 4000; simp; omega
  have tn : ring.drop (1 : Int).toNat ++ ring.take (1 : Int).toNat ≠ [] := by
    intro z; have := congrArg List.length z
    rw [List.length_append, List.length_drop, List.length_take, List.length_nil] at this
    have e1 : (1 : Int).toNat = 1 := rfl
    omega
  have tl : (ring.drop (1 : Int).toNat ++ ring.take (1 : Int).toNat).length ≤ 4000 := by rw [List.length_append, List.length_drop, List.length_take]; omega
  have e0 : EV K (tOp (rMulU K) (tVar 3) (tC (.int 2))) [.d (scrD ns), .d (.int i), .d (.int c), .d (.tup (vsD ring)), .d (wheelD Z ring), .d (.int a), .d (.tup (vsD bent)), .un, .un, .un, .un] (.d (.tup (vsD ((List.replicate (2 : Int).toNat ring).flatten)))) := ev_op (by walk_at "ev") (by walk_at "ev") (rep_vsT hne (by decide) (by show ring.length * 2 ≤ _; omega) (by decide))
  have e3 : EV K (tOp (rMulU K) (tVar 3) (tC (.int 3))) [.d (scrD ns), .d (.int i), .d (.int c), .d (.tup (vsD ring)), .d (wheelD Z ring), .d (.int a), .d (.tup (vsD bent)), .un, .un, .un, .un] (.d (.tup (vsD ((List.replicate (3 : Int).toNat ring).flatten)))) := ev_op (by walk_at "ev") (by walk_at "ev") (rep_vsT hne (by decide) (by show ring.length * 3 ≤ _; omega) (by decide))
  have e2 : EV K (tOp (rAddU K) (tSl (rSlU K) (tVar 3) (tPart (tC (.int 1))) tNoPart) (tSl (rSlU K) (tVar 3) tNoPart (tPart (tC (.int 1))))) [.d (scrD ns), .d (.int i), .d (.int c), .d (.tup (vsD ring)), .d (wheelD Z ring), .d (.int a), .d (.tup (vsD bent)), .un, .un, .un, .un] (.d (.tup (vsD (ring.drop (1 : Int).toNat ++ ring.take (1 : Int).toNat)))) := by
    rw [vsD_app]
    exact ev_op (from_vsT (by walk_at "ev") (by walk_at "ev") (by decide)) (to_vsT (by walk_at "ev") (by walk_at "ev") (by decide)) (add_tup (sz (by rw [len_vsD, len_vsD, List.length_drop, List.length_take]; omega)))
  generalize (List.replicate (2 : Int).toNat ring).flatten = o0 at *
  generalize (List.replicate (3 : Int).toNat ring).flatten = o3 at *
  generalize ring.drop (1 : Int).toNat ++ ring.take (1 : Int).toNat = o2 at *
  have q4 := emod_in c (m := 4) (by decide)
  obtain ⟨o, hat, on, ol⟩ : ∃ o : List (Option Int), L2.atI [D.tup (vsD o0), .tup (vsD bent), .tup (vsD o2), .tup (vsD o3)] (c % 4) = some (.tup (vsD o)) ∧ o ≠ [] ∧ o.length ≤ 4000 := by
    have : c % 4 = 0 ∨ c % 4 = 1 ∨ c % 4 = 2 ∨ c % 4 = 3 := by omega
    rcases this with e | e | e | e <;> rw [e]
    · exact ⟨o0, rfl, r2n, r2l⟩
    · exact ⟨bent, rfl, bn, bl⟩
    · exact ⟨o2, rfl, tn, tl⟩
    · exact ⟨o3, rfl, r3n, r3l⟩
  refine sd_setD (x := .tup (vsD o)) (ev_op (ev_frz (ev_lst (ea_cons e0 (ea_cons (by walk_at "ev") (ea_cons e2 (ea_cons e3 ea_nil)))) (by walk_at "side"))) (by walk_at "ev") (ix_lst hat)) (by walk_at "lt") ?_
  walk_at "sd"
  refine sd_if0 (a := false) (eb_is (eb_not (eb_tru (ev_call (xs := [.tup (vsD ring), .tup (vsD o)]) (by walk_at "ev") ⟨_, _, rfl, hne, by omega, on, ol, rfl⟩) (.bl _))) rfl) rfl ?_
  walk_at "sd"
  exact sd_weak (by walk_at "weak") (tail3 E hc0 hc1 hne (by omega))
theorem tail1 (hc0 : 0 ≤ c) (hc1 : c < 2147483587) (hne : ring ≠ []) (hl : ring.length ≤ 253) : SD K E (t_law_c1 K Z) [.d (scrD ns), .d (.int i), .d (.int c), .d (.tup (vsD ring)), .un, .un, .un, .un, .un, .un, .un] (lawW ns) lawR B (lawW ns) lawX := by
  unfold t_law_c1
  have hl4 : ring.length ≤ 4000 := by omega
  have lel := leastR_le hne
  have lne := leastR_ne hne
  walk_at "sd"
  refine sd_setD (x := wheelD Z ring) (ev_makeS (by walk_at "ev") ⟨_, rfl, rfl, known_vsT _, .inl ⟨ring, hne, hl4, .inl rfl, rfl⟩⟩) (by walk_at "lt") ?_
  walk_at "sd"
  refine sd_if0 (a := false) (eb_is (eb_not (eb_tru (ev_call (xs := [.tup (vsD (leastR ring)), .tup (vsD (leastR ring))]) (ea_cons (ev_fld (ev_call (xs := [wheelD Z ring]) (by walk_at "ev") ⟨_, rfl, hne, hl4, rfl⟩) ZF.ins_Wheel.cl ZF.na_Wheel_ring lk_one) (ea_cons (ev_call (by walk_at "ev") ⟨_, rfl, hne, hl4, rfl⟩) ea_nil)) ⟨_, rfl, pl_vsT _ _ (by omega), rfl⟩) (.bl _))) rfl) rfl ?_
  walk_at "sd"
  walk_at "sd"
  refine sd_if0 (a := false) (eb_is (eb_not (eb_tru (ev_call (xs := [dE (tell ring c), dE (tell ring c)]) (ea_cons (ev_methS (xs := [.int c]) (ev_call (xs := [wheelD Z ring]) (by walk_at "ev") ⟨_, rfl, hne, hl4, rfl⟩) (by walk_at "lk") (by walk_at "ev") ⟨leastR ring, c, rfl, lne, by omega, by rw [least_tell hne]⟩) (ea_cons (ev_call (by walk_at "ev") ⟨_, _, rfl, hne, hl4, rfl⟩) ea_nil)) ⟨_, rfl, plD_dE _ _, rfl⟩) (.bl _))) rfl) rfl ?_
  walk_at "sd"
  exact tail2 E hc0 hc1 hne hl
end
theorem sd_law (h : R_law xs out) : SDef K E (t_law K Z) (slots N_law.length xs) out := by
  obtain ⟨ns, rfl, hns, rfl⟩ := h
  show SD K E (t_law K Z) [.d (scrD ns), .un, .un, .un, .un, .un, .un, .un, .un, .un, .un] _ _ _ _ _
  unfold t_law
  have hl : ((List.map D.int ns).length : Int) = ns.length := by rw [List.length_map]
  have hr : max 1 (min ((List.map D.int ns).length : Int) 63) ≤ 63 := by omega
  walk_at "sd"
  refine sd_rng1 (n := max 1 (min ((List.map D.int ns).length : Int) 63)) (by walk_at "ev") (by omega) (by omega) (fun i => [.d (scrD ns), .un, .un, .un, .un, .un, .un, .un, .un, .un, .un]) (by walk_at "weak") (fun i hi => ?_) ?_
  · refine ⟨_, by walk_at "ev", ?_⟩
    have hcp := cell_pos ns (500 + (i : Int))
    have hrn := ringF_in ns (13 * (i : Int))
    have hne := ringF_ne ns (13 * (i : Int))
    walk_at "sd"
    walk_at "sd"
    walk_at "sd"
    walk_at "sd"
    generalize cell ns (500 + (i : Int)) = c at *
    generalize ringF ns (13 * (i : Int)) = ring at *
    obtain ⟨hc0, hc1⟩ := hcp
    have h36 := hrn.2
    walk_at "sd"
    refine sd_if (by walk_at "ev") (fun h => ?_) (fun h => ?_)
    · have n7 : (List.replicate (7 : Int).toNat ring).flatten ++ ring.take (1 : Int).toNat ≠ [] := by show (List.replicate 7 ring).flatten ++ _ ≠ []; simp [List.replicate_succ, hne]
      have l7 : ((List.replicate (7 : Int).toNat ring).flatten ++ ring.take (1 : Int).toNat).length ≤ 253 := by
        show ((List.replicate 7 ring).flatten ++ ring.take 1).length ≤ 253
        rw [List.length_append, List.length_take]; simp; omega
      refine sd_setD (x := .tup (vsD ((List.replicate (7 : Int).toNat ring).flatten ++ ring.take (1 : Int).toNat))) ?_ (by walk_at "lt") (tail1 E hc0 hc1 n7 l7)
      rw [vsD_app]
      exact ev_op (ev_op (by walk_at "ev") (by walk_at "ev") (rep_vsT hne (by decide) (by show ring.length * 7 ≤ _; omega) (by decide))) (to_vsT (by walk_at "ev") (by walk_at "ev") (by decide)) (add_tup (sz (by rw [← List.length_append, ← vsD_app, len_vsD]; omega)))
    · walk_at "sd"
      exact tail1 E hc0 hc1 hne (by omega)
  · obtain ⟨hb0, hb1⟩ := cell_pos ns 490
    exact sd_ret (ev_call (xs := [.int (cell ns 490)]) (by walk_at "ev") ⟨_, rfl, hb0, hb1, rfl⟩) (.inl rfl)

end
theorem law_asks {K : PySem.W.Frag} {H : Hp} {a : Addr} {ns : List Int} {Q : VK} {E : XK} (hl : ns.length ≤ 63) (hS : SqL K H a (ns.map V.int)) (q : ∀ H', Q (.bl true) H') : spD K R_law [.ref a] H Q E :=
  ⟨H, [scrD ns], _, .refl H, .cons (.scr hS (rp_ints (fun i => i) ns)) .nil, ⟨ns, rfl, hl, rfl⟩, fun v s G' H' e _ _ _ _ k => by
    cases e; obtain ⟨v', e, r⟩ := k; cases e; cases r; exact q H', fun _ _ _ _ _ _ e => nomatch e⟩
end Far
namespace Far
open PySem L2 PyProof.Rows
def topS (i : Nat) : Stmt := PySem.Challenge.pw_farrows_k22_least_and_turned.main.body.getD i (.Pass ⟨0, 0, 0, 0⟩)
abbrev s_is_place : Stmt := topS 11
theorem sc_is_place : FnScope N_is_place ["thing"] (defScope s_is_place) := ⟨rfl, rfl, rfl, by decide +kernel, rfl, by decide +kernel, by decide +kernel⟩
abbrev s_is_value : Stmt := topS 14
theorem sc_is_value : FnScope N_is_value ["thing"] (defScope s_is_value) := ⟨rfl, rfl, rfl, by decide +kernel, rfl, by decide +kernel, by decide +kernel⟩
abbrev s_are_values : Stmt := topS 15
theorem sc_are_values : FnScope N_are_values ["things", "fewest"] (defScope s_are_values) := ⟨rfl, rfl, rfl, by decide +kernel, rfl, by decide +kernel, by decide +kernel⟩
abbrev s_Wheel_init : Stmt := inClass (topS 17) 0
theorem sc_Wheel_init : FnScope N_Wheel_init ["self", "values"] (defScope s_Wheel_init) := ⟨rfl, rfl, rfl, by decide +kernel, rfl, by decide +kernel, by decide +kernel⟩
abbrev s_need_place : Stmt := topS 16
theorem sc_need_place : FnScope N_need_place ["thing"] (defScope s_need_place) := ⟨rfl, rfl, rfl, by decide +kernel, rfl, by decide +kernel, by decide +kernel⟩
abbrev s_Wheel_tells : Stmt := inClass (topS 17) 1
theorem sc_Wheel_tells : FnScope N_Wheel_tells ["self", "place"] (defScope s_Wheel_tells) := ⟨rfl, rfl, rfl, by decide +kernel, rfl, by decide +kernel, by decide +kernel⟩
abbrev s_least_round : Stmt := topS 18
theorem sc_least_round : FnScope N_least_round ["values"] (defScope s_least_round) := ⟨rfl, rfl, rfl, by decide +kernel, rfl, by decide +kernel, by decide +kernel⟩
abbrev s_least_wheel : Stmt := topS 19
theorem sc_least_wheel : FnScope N_least_wheel ["wheel"] (defScope s_least_wheel) := ⟨rfl, rfl, rfl, by decide +kernel, rfl, by decide +kernel, by decide +kernel⟩
abbrev s_same_wheels : Stmt := topS 20
theorem sc_same_wheels : FnScope N_same_wheels ["one", "other"] (defScope s_same_wheels) := ⟨rfl, rfl, rfl, by decide +kernel, rfl, by decide +kernel, by decide +kernel⟩
abbrev s_moved_wheel : Stmt := topS 21
theorem sc_moved_wheel : FnScope N_moved_wheel ["wheel", "by"] (defScope s_moved_wheel) := ⟨rfl, rfl, rfl, by decide +kernel, rfl, by decide +kernel, by decide +kernel⟩
abbrev s_mirrored_wheel : Stmt := topS 22
theorem sc_mirrored_wheel : FnScope N_mirrored_wheel ["wheel", "about"] (defScope s_mirrored_wheel) := ⟨rfl, rfl, rfl, by decide +kernel, rfl, by decide +kernel, by decide +kernel⟩
abbrev s_l_cell : Stmt := topS 24
theorem sc_l_cell : FnScope N_l_cell ["_law_script", "_law_k"] (defScope s_l_cell) := ⟨rfl, rfl, rfl, by decide +kernel, rfl, by decide +kernel, by decide +kernel⟩
abbrev s_l_value : Stmt := topS 25
theorem sc_l_value : FnScope N_l_value ["_law_cell_here"] (defScope s_l_value) := ⟨rfl, rfl, rfl, by decide +kernel, rfl, by decide +kernel, by decide +kernel⟩
abbrev s_l_place : Stmt := topS 26
theorem sc_l_place : FnScope N_l_place ["_law_cell_here"] (defScope s_l_place) := ⟨rfl, rfl, rfl, by decide +kernel, rfl, by decide +kernel, by decide +kernel⟩
abbrev s_l_ring : Stmt := topS 27
theorem sc_l_ring : FnScope N_l_ring ["_law_script", "_law_k"] (defScope s_l_ring) := ⟨rfl, rfl, rfl, by decide +kernel, rfl, by decide +kernel, by decide +kernel⟩
abbrev s_l_least : Stmt := topS 28
theorem sc_l_least : FnScope N_l_least ["_law_ring_here"] (defScope s_l_least) := ⟨rfl, rfl, rfl, by decide +kernel, rfl, by decide +kernel, by decide +kernel⟩
abbrev s_l_round : Stmt := topS 29
theorem sc_l_round : FnScope N_l_round ["_law_ring_here", "_law_place_here"] (defScope s_l_round) := ⟨rfl, rfl, rfl, by decide +kernel, rfl, by decide +kernel, by decide +kernel⟩
abbrev s_l_alike : Stmt := topS 30
theorem sc_l_alike : FnScope N_l_alike ["_law_found", "_law_due"] (defScope s_l_alike) := ⟨rfl, rfl, rfl, by decide +kernel, rfl, by decide +kernel, by decide +kernel⟩
abbrev s_l_refusal : Stmt := topS 31
theorem sc_l_refusal : FnScope N_l_refusal ["_law_error"] (defScope s_l_refusal) := ⟨rfl, rfl, rfl, by decide +kernel, rfl, by decide +kernel, by decide +kernel⟩
abbrev s_l_refused : Stmt := topS 32
theorem sc_l_refused : FnScope N_l_refused ["_law_way", "_law_ring_here", "_law_thing"] (defScope s_l_refused) := ⟨rfl, rfl, rfl, by decide +kernel, rfl, by decide +kernel, by decide +kernel⟩
abbrev s_l_same_right : Stmt := topS 33
theorem sc_l_same_right : FnScope N_l_same_right ["_law_ring_here", "_law_other"] (defScope s_l_same_right) := ⟨rfl, rfl, rfl, by decide +kernel, rfl, by decide +kernel, by decide +kernel⟩
abbrev s_l_great_right : Stmt := topS 34
theorem sc_l_great_right : FnScope N_l_great_right ["_law_cell_here"] (defScope s_l_great_right) := ⟨rfl, rfl, rfl, by decide +kernel, rfl, by decide +kernel, by decide +kernel⟩
abbrev s_law : Stmt := topS 35
theorem sc_law : FnScope N_law ["_law_script"] (defScope s_law) := ⟨rfl, rfl, rfl, by decide +kernel, rfl, by decide +kernel, by decide +kernel⟩
structure Txt (K : PySem.W.Frag) (mg : Str → Option Value) (Z : Zs) where
  a_is_place : Addr
  d_is_place : FuncData
  F_is_place : Fun K "is_place" "is_place" s_is_place a_is_place d_is_place
  b_is_place : Binds K d_is_place ["thing"] []
  g_is_place : mg "is_place" = some (.ref a_is_place)
  a_is_value : Addr
  d_is_value : FuncData
  F_is_value : Fun K "is_value" "is_value" s_is_value a_is_value d_is_value
  b_is_value : Binds K d_is_value ["thing"] []
  g_is_value : mg "is_value" = some (.ref a_is_value)
  a_are_values : Addr
  d_are_values : FuncData
  F_are_values : Fun K "are_values" "are_values" s_are_values a_are_values d_are_values
  b_are_values : Binds K d_are_values ["things", "fewest"] []
  g_are_values : mg "are_values" = some (.ref a_are_values)
  a_Wheel_init : Addr
  d_Wheel_init : FuncData
  F_Wheel_init : Fun K "__init__" "Wheel.__init__" s_Wheel_init a_Wheel_init d_Wheel_init
  b_Wheel_init : Binds K d_Wheel_init ["self", "values"] []
  a_need_place : Addr
  d_need_place : FuncData
  F_need_place : Fun K "need_place" "need_place" s_need_place a_need_place d_need_place
  b_need_place : Binds K d_need_place ["thing"] []
  g_need_place : mg "need_place" = some (.ref a_need_place)
  a_Wheel_tells : Addr
  d_Wheel_tells : FuncData
  F_Wheel_tells : Fun K "tells" "Wheel.tells" s_Wheel_tells a_Wheel_tells d_Wheel_tells
  b_Wheel_tells : Binds K d_Wheel_tells ["self", "place"] []
  a_least_round : Addr
  d_least_round : FuncData
  F_least_round : Fun K "least_round" "least_round" s_least_round a_least_round d_least_round
  b_least_round : Binds K d_least_round ["values"] []
  g_least_round : mg "least_round" = some (.ref a_least_round)
  a_least_wheel : Addr
  d_least_wheel : FuncData
  F_least_wheel : Fun K "least_wheel" "least_wheel" s_least_wheel a_least_wheel d_least_wheel
  b_least_wheel : Binds K d_least_wheel ["wheel"] []
  g_least_wheel : mg "least_wheel" = some (.ref a_least_wheel)
  a_same_wheels : Addr
  d_same_wheels : FuncData
  F_same_wheels : Fun K "same_wheels" "same_wheels" s_same_wheels a_same_wheels d_same_wheels
  b_same_wheels : Binds K d_same_wheels ["one", "other"] []
  g_same_wheels : mg "same_wheels" = some (.ref a_same_wheels)
  a_moved_wheel : Addr
  d_moved_wheel : FuncData
  F_moved_wheel : Fun K "moved_wheel" "moved_wheel" s_moved_wheel a_moved_wheel d_moved_wheel
  b_moved_wheel : Binds K d_moved_wheel ["wheel", "by"] []
  g_moved_wheel : mg "moved_wheel" = some (.ref a_moved_wheel)
  a_mirrored_wheel : Addr
  d_mirrored_wheel : FuncData
  F_mirrored_wheel : Fun K "mirrored_wheel" "mirrored_wheel" s_mirrored_wheel a_mirrored_wheel d_mirrored_wheel
  b_mirrored_wheel : Binds K d_mirrored_wheel ["wheel", "about"] []
  g_mirrored_wheel : mg "mirrored_wheel" = some (.ref a_mirrored_wheel)
  a_l_cell : Addr
  d_l_cell : FuncData
  F_l_cell : Fun K "_law_cell" "_law_cell" s_l_cell a_l_cell d_l_cell
  b_l_cell : Binds K d_l_cell ["_law_script", "_law_k"] []
  g_l_cell : mg "_law_cell" = some (.ref a_l_cell)
  a_l_value : Addr
  d_l_value : FuncData
  F_l_value : Fun K "_law_value" "_law_value" s_l_value a_l_value d_l_value
  b_l_value : Binds K d_l_value ["_law_cell_here"] []
  g_l_value : mg "_law_value" = some (.ref a_l_value)
  a_l_place : Addr
  d_l_place : FuncData
  F_l_place : Fun K "_law_place" "_law_place" s_l_place a_l_place d_l_place
  b_l_place : Binds K d_l_place ["_law_cell_here"] []
  g_l_place : mg "_law_place" = some (.ref a_l_place)
  a_l_ring : Addr
  d_l_ring : FuncData
  F_l_ring : Fun K "_law_ring" "_law_ring" s_l_ring a_l_ring d_l_ring
  b_l_ring : Binds K d_l_ring ["_law_script", "_law_k"] []
  g_l_ring : mg "_law_ring" = some (.ref a_l_ring)
  a_l_least : Addr
  d_l_least : FuncData
  F_l_least : Fun K "_law_least" "_law_least" s_l_least a_l_least d_l_least
  b_l_least : Binds K d_l_least ["_law_ring_here"] []
  g_l_least : mg "_law_least" = some (.ref a_l_least)
  a_l_round : Addr
  d_l_round : FuncData
  F_l_round : Fun K "_law_round" "_law_round" s_l_round a_l_round d_l_round
  b_l_round : Binds K d_l_round ["_law_ring_here", "_law_place_here"] []
  g_l_round : mg "_law_round" = some (.ref a_l_round)
  a_l_alike : Addr
  d_l_alike : FuncData
  F_l_alike : Fun K "_law_alike" "_law_alike" s_l_alike a_l_alike d_l_alike
  b_l_alike : Binds K d_l_alike ["_law_found", "_law_due"] []
  g_l_alike : mg "_law_alike" = some (.ref a_l_alike)
  a_l_refusal : Addr
  d_l_refusal : FuncData
  F_l_refusal : Fun K "_law_refusal" "_law_refusal" s_l_refusal a_l_refusal d_l_refusal
  b_l_refusal : Binds K d_l_refusal ["_law_error"] []
  g_l_refusal : mg "_law_refusal" = some (.ref a_l_refusal)
  a_l_refused : Addr
  d_l_refused : FuncData
  F_l_refused : Fun K "_law_refused" "_law_refused" s_l_refused a_l_refused d_l_refused
  b_l_refused : Binds K d_l_refused ["_law_way", "_law_ring_here", "_law_thing"] []
  g_l_refused : mg "_law_refused" = some (.ref a_l_refused)
  a_l_same_right : Addr
  d_l_same_right : FuncData
  F_l_same_right : Fun K "_law_same_right" "_law_same_right" s_l_same_right a_l_same_right d_l_same_right
  b_l_same_right : Binds K d_l_same_right ["_law_ring_here", "_law_other"] []
  g_l_same_right : mg "_law_same_right" = some (.ref a_l_same_right)
  a_l_great_right : Addr
  d_l_great_right : FuncData
  F_l_great_right : Fun K "_law_great_right" "_law_great_right" s_l_great_right a_l_great_right d_l_great_right
  b_l_great_right : Binds K d_l_great_right ["_law_cell_here"] []
  g_l_great_right : mg "_law_great_right" = some (.ref a_l_great_right)
  a_law : Addr
  d_law : FuncData
  F_law : Fun K "law" "law" s_law a_law d_law
  b_law : Binds K d_law ["_law_script"] []
  g_law : mg "law" = some (.ref a_law)
  n_ValueError : mg "ValueError" = none
  n_all : mg "all" = none
  n_bool : mg "bool" = none
  n_int : mg "int" = none
  n_isinstance : mg "isinstance" = none
  n_len : mg "len" = none
  n_list : mg "list" = none
  n_max : mg "max" = none
  n_min : mg "min" = none
  n_range : mg "range" = none
  n_tuple : mg "tuple" = none
  t_MOST_VALUES : Tok
  g_MOST_VALUES : mg "MOST_VALUES" = some (.int 4000 t_MOST_VALUES)
  g_FarError : mg "FarError" = some (.ref Z.FarError)
  g_NoSpan : mg "NoSpan" = some (.ref Z.NoSpan)
  g_NoValue : mg "NoValue" = some (.ref Z.NoValue)
  g_NoPlace : mg "NoPlace" = some (.ref Z.NoPlace)
  g_NoCount : mg "NoCount" = some (.ref Z.NoCount)
  g_NoWheel : mg "NoWheel" = some (.ref Z.NoWheel)
  g_NoRow : mg "NoRow" = some (.ref Z.NoRow)
  g_TooMany : mg "TooMany" = some (.ref Z.TooMany)
  g_NoText : mg "NoText" = some (.ref Z.NoText)
  g_Wheel : mg "Wheel" = some (.ref Z.Wheel)
  xi_NoPlace : PySem.W.excIn K Z.NoPlace PySem.HandSPX.veTail "ValueError.__new__" = true
  kp_NoPlace : PySem.W.keepIn K (.ref Z.NoPlace) = true
  xb_NoPlace : PySem.W.subIn K (.ref Z.NoPlace) (.type "BaseException") = some true
  ty_NoPlace : PySem.W.typeIn K (.ref Z.NoPlace) = some (.type "type")
  xi_NoWheel : PySem.W.excIn K Z.NoWheel PySem.HandSPX.veTail "ValueError.__new__" = true
  kp_NoWheel : PySem.W.keepIn K (.ref Z.NoWheel) = true
  xb_NoWheel : PySem.W.subIn K (.ref Z.NoWheel) (.type "BaseException") = some true
  ty_NoWheel : PySem.W.typeIn K (.ref Z.NoWheel) = some (.type "type")
  mk_Wheel : Mk K Z.Wheel a_Wheel_init
  me_Wheel_tells : Meth K Z.Wheel "tells" a_Wheel_tells
  zf : ZF K Z
section
variable {P : Program} {w : World} {K : PySem.W.Frag} {mg : Str → Option Value} {base : Heap} {Z : Zs}
theorem ok_is_place (T : Txt K mg Z) : FnOk P w K mg base CX0 1 T.a_is_place T.d_is_place ["thing"] (spD K R_is_place) :=
  haveI := T.zf; ok_def (t := t_is_place K) T.F_is_place sc_is_place hl_is_place (fun cdv A outer s H E hr =>
    (pss_one (ps_ret (pe_andT (pe_callB call_isU (by rfl) T.n_isinstance (by decide +kernel) (pa_cons (pv 0) (pa_cons (pe_bltn (v := .ty "int") (by rfl) T.n_int (by decide +kernel) rfl) pa_nil))) (pe_one (pe_notT (pe_callB call_isU (by rfl) T.n_isinstance (by decide +kernel) (pa_cons (pv 0) (pa_cons (pe_bltn (v := .ty "bool") (by rfl) T.n_bool (by decide +kernel) rfl) pa_nil))))))))) (fun E xs out h => sd_is_place E h)
theorem ok_is_value (T : Txt K mg Z) : FnOk P w K mg base CX0 2 T.a_is_value T.d_is_value ["thing"] (spD K R_is_value) :=
  haveI := T.zf; ok_def (t := t_is_value K) T.F_is_value sc_is_value hl_is_value (fun cdv A outer s H E hr =>
    (pss_one (ps_ret (pe_orT (pe_cmpR op_isN1 (pv 0) pe_non (nomark _)) (pe_one (pe_call (ok_is_place T) (hr.mono (by omega)) (by rfl) T.g_is_place T.F_is_place.kp T.b_is_place .nil pass0 (pa_cons (pv 0) pa_nil))))))) (fun E xs out h => sd_is_value E h)
theorem ok_are_values (T : Txt K mg Z) : FnOk P w K mg base CX0 3 T.a_are_values T.d_are_values ["things", "fewest"] (spD K R_are_values) :=
  haveI := T.zf; ok_def (t := t_are_values K) T.F_are_values sc_are_values hl_are_values (fun cdv A outer s H E hr =>
    (pss_cons (ps_if (PW.pt (pw_or (pt_not (pt_truth (pe_callB call_isU (by rfl) T.n_isinstance (by decide +kernel) (pa_cons (pv 0) (pa_cons (pe_tup (pa_cons (pe_bltn (v := .ty "tuple") (by rfl) T.n_tuple (by decide +kernel) rfl) (pa_cons (pe_bltn (v := .ty "list") (by rfl) T.n_list (by decide +kernel) rfl) pa_nil))) pa_nil))) (by intro _; rfl))) (pw_or1 (pt_not (pt_chain op_le op_le (pv 1) (pe_callB call_len (by rfl) T.n_len (by decide +kernel) (pa_cons (pv 0) pa_nil)) (pe_glob (v := .int 4000) (by rfl) T.g_MOST_VALUES ⟨_, rfl⟩))))))
    (pss_one (ps_ret pe_bl)) pss_nil)
    (pss_one (ps_ret (pe_callB (cr_all rfl) (by rfl) T.n_all (by decide +kernel) (pa_cons (pe_lc (own := [("thing", 2)]) (by rfl) sc_are_values.nd (pi_seq (pv 0)) (blkOk_by (own := [("thing", 2)]) (N := N_are_values) (sc := defScope s_are_values) (by decide +kernel)) (fun _ _ _ _ _ => (pg_name (i := 2) sc_are_values.nd rfl (by first | exact Or.inl rfl | exact Or.inr rfl))) (fun _ _ _ _ _ => pts_nil) (fun _ _ _ _ _ => (pe_call (ok_is_value T) (hr.mono (by omega)) (by rfl) T.g_is_value T.F_is_value.kp T.b_is_value .nil pass0 (pa_cons (pv 2) pa_nil)))) pa_nil)))))) (fun E xs out h => sd_are_values E h)
theorem ok_Wheel_init (T : Txt K mg Z) : FnOk P w K mg base (L2.CX P w) 4 T.a_Wheel_init T.d_Wheel_init ["self", "values"] (spI K Z.Wheel (R_Wheel_init Z)) :=
  haveI := T.zf; ok_initX (t := t_Wheel_init K Z) T.F_Wheel_init sc_Wheel_init hl_Wheel_init (by decide) (fun cdv A outer s H E hr =>
    (pss_cons (ps_if (pt_not (pt_truth (pe_call (ok_are_values T) (hr.mono (by omega)) (by rfl) T.g_are_values T.F_are_values.kp T.b_are_values .nil pass0 (pa_cons (pv 1) (pa_cons pe_int pa_nil))) (by intro _; rfl)))
    (pss_one (ps_raise rfl (takes_of rfl rfl rfl rfl) (pmk_own PySem.F.excBase_ValueError T.xi_NoWheel T.g_NoWheel T.kp_NoWheel (raises_own T.xb_NoWheel T.ty_NoWheel) (by exact rfl)))) pss_nil)
    (pss_one (ps_fld (pv 0) (pe_callTy call_tupleU (by rfl) T.n_tuple (by decide +kernel) (pa_cons (pv 1) pa_nil)) rfl)))) (fun E x xs out h => sd_Wheel_init E h)
theorem ok_need_place (T : Txt K mg Z) : FnOk P w K mg base (L2.CX P w) 2 T.a_need_place T.d_need_place ["thing"] (spD K (R_need_place Z)) :=
  haveI := T.zf; ok_defX (t := t_need_place K Z) T.F_need_place sc_need_place hl_need_place (fun cdv A outer s H E hr =>
    (pss_one (ps_if (pt_not (pt_truth (pe_call (ok_is_place T) (hr.mono (by omega)) (by rfl) T.g_is_place T.F_is_place.kp T.b_is_place .nil pass0 (pa_cons (pv 0) pa_nil)) (by intro _; rfl)))
    (pss_one (ps_raise rfl (takes_of rfl rfl rfl rfl) (pmk_own PySem.F.excBase_ValueError T.xi_NoPlace T.g_NoPlace T.kp_NoPlace (raises_own T.xb_NoPlace T.ty_NoPlace) (by exact rfl)))) pss_nil))) (fun E xs out h => sd_need_place E h)
theorem ok_Wheel_tells (T : Txt K mg Z) : FnOk P w K mg base CX0 1 T.a_Wheel_tells T.d_Wheel_tells ["self", "place"] (spD K (R_Wheel_tells Z)) :=
  haveI := T.zf; ok_def (t := t_Wheel_tells K) T.F_Wheel_tells sc_Wheel_tells hl_Wheel_tells (fun cdv A outer s H E hr =>
    (pss_one (ps_ret (pe_ix ix_seq (pe_fld (pv 0) rfl) (pe_op op_mod (pv 1) (pe_callB call_len (by rfl) T.n_len (by decide +kernel) (pa_cons (pe_fld (pv 0) rfl) pa_nil))) (fun _ _ => rfl))))) (fun E xs out h => sd_Wheel_tells E h)
theorem ok_least_round (T : Txt K mg Z) : FnOk P w K mg base CX0 1 T.a_least_round T.d_least_round ["values"] (spD K R_least_round) :=
  haveI := T.zf; ok_def (t := t_least_round K) T.F_least_round sc_least_round hl_least_round (fun cdv A outer s H E hr =>
    (pss_cons (ps_for PassesOwn.never rfl (pi_rangeU2 rfl T.n_range (pa_cons pe_int (pa_cons (pe_callB call_len (by rfl) T.n_len (by decide +kernel) (pa_cons (pv 0) pa_nil)) pa_nil))) (pg_name (i := 1) sc_least_round.nd rfl (by first | exact Or.inl rfl | exact Or.inr rfl))
    (pss_one (ps_if (PW.pt (pw_and (pt_cmpR (op_eqU hr.units) (pe_op op_mod (pe_callB call_len (by rfl) T.n_len (by decide +kernel) (pa_cons (pv 0) pa_nil)) (pv 1)) pe_int (nomark _)) (pw_and1 (pt_cmpR (op_eqU hr.units) (pv 0) (pe_op op_mulU (pe_slice sl_U (pv 0) po_none (po_some (pv 1))) (pe_op op_fdivW (pe_callB call_len (by rfl) T.n_len (by decide +kernel) (pa_cons (pv 0) pa_nil)) (pv 1))) (nomark _)))))
    (pss_one (ps_ret (pe_slice sl_U (pv 0) po_none (po_some (pv 1))))) pss_nil)))
    (pss_one (ps_ret (pv 0))))) (fun E xs out h => sd_least_round E h)
theorem ok_least_wheel (T : Txt K mg Z) : FnOk P w K mg base CX0 6 T.a_least_wheel T.d_least_wheel ["wheel"] (spD K (R_least_wheel Z)) :=
  haveI := T.zf; ok_def (t := t_least_wheel K Z) T.F_least_wheel sc_least_wheel hl_least_wheel (fun cdv A outer s H E hr =>
    (pss_one (ps_ret (pe_makeS T.mk_Wheel (ok_Wheel_init T) (hr.mono (by omega)) (by rfl) T.g_Wheel T.b_Wheel_init (fun _ => passC) (pa_cons (pe_call (ok_least_round T) (hr.mono (by omega)) (by rfl) T.g_least_round T.F_least_round.kp T.b_least_round .nil pass0 (pa_cons (pe_fld (pv 0) rfl) pa_nil)) pa_nil))))) (fun E xs out h => sd_least_wheel E h)
theorem ok_same_wheels (T : Txt K mg Z) : FnOk P w K mg base CX0 2 T.a_same_wheels T.d_same_wheels ["one", "other"] (spD K (R_same_wheels Z)) :=
  haveI := T.zf; ok_def (t := t_same_wheels K) T.F_same_wheels sc_same_wheels hl_same_wheels (fun cdv A outer s H E hr =>
    (pss_one (ps_ret (pe_cmpR (op_eqU hr.units) (pe_call (ok_least_round T) (hr.mono (by omega)) (by rfl) T.g_least_round T.F_least_round.kp T.b_least_round .nil pass0 (pa_cons (pe_fld (pv 0) rfl) pa_nil)) (pe_call (ok_least_round T) (hr.mono (by omega)) (by rfl) T.g_least_round T.F_least_round.kp T.b_least_round .nil pass0 (pa_cons (pe_fld (pv 1) rfl) pa_nil)) (nomark _))))) (fun E xs out h => sd_same_wheels E h)
theorem ok_moved_wheel (T : Txt K mg Z) : FnOk P w K mg base (L2.CX P w) 7 T.a_moved_wheel T.d_moved_wheel ["wheel", "by"] (spD K (R_moved_wheel Z)) :=
  haveI := T.zf; ok_defX (t := t_moved_wheel K Z) T.F_moved_wheel sc_moved_wheel hl_moved_wheel (fun cdv A outer s H E hr =>
    (pss_cons (ps_expr (pe_callS (ok_need_place T) (hr.mono (by omega)) (by rfl) T.g_need_place T.F_need_place.kp T.b_need_place (fun σ => passAt (takes_of rfl rfl rfl rfl) σ) (pa_cons (pv 1) pa_nil)))
    (pss_one (ps_ret (pe_call (ok_least_wheel T) (hr.mono (by omega)) (by rfl) T.g_least_wheel T.F_least_wheel.kp T.b_least_wheel .nil pass0 (pa_cons (pe_makeS T.mk_Wheel (ok_Wheel_init T) (hr.mono (by omega)) (by rfl) T.g_Wheel T.b_Wheel_init (fun σ => passAt (takes_of rfl rfl rfl rfl) σ) (pa_cons (pe_lc (own := [("place", 2)]) (by rfl) sc_moved_wheel.nd (pi_rangeU1 rfl T.n_range (pa_cons (pe_callB call_len (by rfl) T.n_len (by decide +kernel) (pa_cons (pe_fld (pv 0) rfl) pa_nil)) pa_nil)) (blkOk_by (own := [("place", 2)]) (N := N_moved_wheel) (sc := defScope s_moved_wheel) (by decide +kernel)) (fun _ _ _ _ _ => (pg_name (i := 2) sc_moved_wheel.nd rfl (by first | exact Or.inl rfl | exact Or.inr rfl))) (fun _ _ _ _ _ => pts_nil) (fun _ _ _ _ _ => (pe_methS (pv 0) T.zf.ins_Wheel.cl T.me_Wheel_tells (ok_Wheel_tells T) (hr.mono (by omega)) T.b_Wheel_tells (fun _ => pass0C) (pa_cons (pe_op op_sub (pv 2) (pv 1)) pa_nil)))) pa_nil)) pa_nil)))))) (fun E xs out h => sd_moved_wheel E h)
theorem ok_mirrored_wheel (T : Txt K mg Z) : FnOk P w K mg base (L2.CX P w) 7 T.a_mirrored_wheel T.d_mirrored_wheel ["wheel", "about"] (spD K (R_mirrored_wheel Z)) :=
  haveI := T.zf; ok_defX (t := t_mirrored_wheel K Z) T.F_mirrored_wheel sc_mirrored_wheel hl_mirrored_wheel (fun cdv A outer s H E hr =>
    (pss_cons (ps_expr (pe_callS (ok_need_place T) (hr.mono (by omega)) (by rfl) T.g_need_place T.F_need_place.kp T.b_need_place (fun σ => passAt (takes_of rfl rfl rfl rfl) σ) (pa_cons (pv 1) pa_nil)))
    (pss_one (ps_ret (pe_call (ok_least_wheel T) (hr.mono (by omega)) (by rfl) T.g_least_wheel T.F_least_wheel.kp T.b_least_wheel .nil pass0 (pa_cons (pe_makeS T.mk_Wheel (ok_Wheel_init T) (hr.mono (by omega)) (by rfl) T.g_Wheel T.b_Wheel_init (fun σ => passAt (takes_of rfl rfl rfl rfl) σ) (pa_cons (pe_lc (own := [("place", 2)]) (by rfl) sc_mirrored_wheel.nd (pi_rangeU1 rfl T.n_range (pa_cons (pe_callB call_len (by rfl) T.n_len (by decide +kernel) (pa_cons (pe_fld (pv 0) rfl) pa_nil)) pa_nil)) (blkOk_by (own := [("place", 2)]) (N := N_mirrored_wheel) (sc := defScope s_mirrored_wheel) (by decide +kernel)) (fun _ _ _ _ _ => (pg_name (i := 2) sc_mirrored_wheel.nd rfl (by first | exact Or.inl rfl | exact Or.inr rfl))) (fun _ _ _ _ _ => pts_nil) (fun _ _ _ _ _ => (pe_methS (pv 0) T.zf.ins_Wheel.cl T.me_Wheel_tells (ok_Wheel_tells T) (hr.mono (by omega)) T.b_Wheel_tells (fun _ => pass0C) (pa_cons (pe_op op_sub (pv 1) (pv 2)) pa_nil)))) pa_nil)) pa_nil)))))) (fun E xs out h => sd_mirrored_wheel E h)
theorem ok_l_cell (T : Txt K mg Z) : FnOk P w K mg base CX0 1 T.a_l_cell T.d_l_cell ["_law_script", "_law_k"] (spD K R_l_cell) :=
  haveI := T.zf; ok_def (t := t_l_cell K) T.F_l_cell sc_l_cell hl_l_cell (fun cdv A outer s H E hr =>
    (pss_cons (ps_set (i := 2) sc_l_cell.nd rfl (by first | exact Or.inl rfl | exact Or.inr rfl) (pe_op op_addU (pe_op op_mulU pe_int (pv 1)) pe_int))
    (pss_cons (ps_if (pt_cmpR (op_neU hr.units) (pv 0) (pe_lst pa_nil) (nomark _))
    (pss_cons (ps_set (i := 2) sc_l_cell.nd rfl (by first | exact Or.inl rfl | exact Or.inr rfl) (pe_op op_mulU (pe_ix ix_seq (pv 0) (pe_op op_mod (pv 1) (pe_callB call_len (by rfl) T.n_len (by decide +kernel) (pa_cons (pv 0) pa_nil))) (fun _ _ => rfl)) pe_int))
    (pss_one (ps_set (i := 2) sc_l_cell.nd rfl (by first | exact Or.inl rfl | exact Or.inr rfl) (pe_op op_addU (pe_op op_addU (pv 2) (pe_op op_mulU pe_int (pv 1))) (pe_op op_mulU (pe_op op_fdivW (pv 1) (pe_callB call_len (by rfl) T.n_len (by decide +kernel) (pa_cons (pv 0) pa_nil))) pe_int))))) pss_nil)
    (pss_cons (ps_set (i := 3) sc_l_cell.nd rfl (by first | exact Or.inl rfl | exact Or.inr rfl) (pe_op op_mod (pv 2) pe_int))
    (pss_cons (ps_set (i := 3) sc_l_cell.nd rfl (by first | exact Or.inl rfl | exact Or.inr rfl) (pe_op op_mod (pe_op op_mulU (pv 3) (pv 3)) pe_int))
    (pss_one (ps_ret (pe_op op_mod (pe_op op_addU (pe_op op_addU (pe_op op_mulU (pv 3) (pv 3)) (pe_op op_mulU pe_int (pv 3))) (pv 1)) pe_int)))))))) (fun E xs out h => sd_l_cell E h)
theorem ok_l_value (T : Txt K mg Z) : FnOk P w K mg base CX0 1 T.a_l_value T.d_l_value ["_law_cell_here"] (spD K R_l_value) :=
  haveI := T.zf; ok_def (t := t_l_value K) T.F_l_value sc_l_value hl_l_value (fun cdv A outer s H E hr =>
    (pss_cons (ps_set (i := 1) sc_l_value.nd rfl (by first | exact Or.inl rfl | exact Or.inr rfl) pe_int)
    (pss_cons (ps_for PassesOwn.never rfl (pi_rangeU1 rfl T.n_range (pa_cons pe_int pa_nil)) (pg_name (i := 2) sc_l_value.nd rfl (by first | exact Or.inl rfl | exact Or.inr rfl))
    (pss_one (ps_set (i := 1) sc_l_value.nd rfl (by first | exact Or.inl rfl | exact Or.inr rfl) (pe_op op_mod (pe_op op_mulU (pv 1) (pe_op op_addU (pv 0) (pv 2))) (pe_op op_pow pe_int pe_int)))))
    (pss_one (ps_ret (pe_ix ix_seq (pe_lst (pa_cons pe_non (pa_cons pe_int (pa_cons pe_int (pa_cons pe_int (pa_cons (pe_un un_neg pe_int) (pa_cons (pe_op op_sub (pe_op op_mod (pe_op op_fdivW (pv 0) pe_int) pe_int) pe_int) (pa_cons (pv 1) (pa_cons (pe_un un_neg (pv 1)) (pa_cons pe_non (pa_cons pe_int pa_nil))))))))))) (pe_op op_mod (pv 0) pe_int) (fun _ _ => rfl))))))) (fun E xs out h => sd_l_value E h)
theorem ok_l_place (T : Txt K mg Z) : FnOk P w K mg base CX0 1 T.a_l_place T.d_l_place ["_law_cell_here"] (spD K R_l_place) :=
  haveI := T.zf; ok_def (t := t_l_place K) T.F_l_place sc_l_place hl_l_place (fun cdv A outer s H E hr =>
    (pss_cons (ps_set (i := 1) sc_l_place.nd rfl (by first | exact Or.inl rfl | exact Or.inr rfl) pe_int)
    (pss_cons (ps_for PassesOwn.never rfl (pi_rangeU1 rfl T.n_range (pa_cons pe_int pa_nil)) (pg_name (i := 2) sc_l_place.nd rfl (by first | exact Or.inl rfl | exact Or.inr rfl))
    (pss_one (ps_set (i := 1) sc_l_place.nd rfl (by first | exact Or.inl rfl | exact Or.inr rfl) (pe_op op_mod (pe_op op_mulU (pv 1) (pe_op op_addU (pv 0) (pv 2))) (pe_op op_pow pe_int pe_int)))))
    (pss_one (ps_ret (pe_ix ix_seq (pe_lst (pa_cons (pe_op op_sub (pe_op op_mod (pe_op op_fdivW (pv 0) pe_int) pe_int) pe_int) (pa_cons (pe_op op_sub (pe_op op_mod (pe_op op_fdivW (pv 0) pe_int) pe_int) pe_int) (pa_cons (pe_op op_sub (pe_op op_mod (pe_op op_fdivW (pv 0) pe_int) pe_int) pe_int) (pa_cons (pv 1) (pa_cons (pe_un un_neg (pv 1)) (pa_cons pe_int pa_nil))))))) (pe_op op_mod (pv 0) pe_int) (fun _ _ => rfl))))))) (fun E xs out h => sd_l_place E h)
theorem ok_l_ring (T : Txt K mg Z) : FnOk P w K mg base CX0 2 T.a_l_ring T.d_l_ring ["_law_script", "_law_k"] (spD K R_l_ring) :=
  haveI := T.zf; ok_def (t := t_l_ring K) T.F_l_ring sc_l_ring hl_l_ring (fun cdv A outer s H E hr =>
    (pss_cons (ps_set (i := 2) sc_l_ring.nd rfl (by first | exact Or.inl rfl | exact Or.inr rfl) (pe_call (ok_l_cell T) (hr.mono (by omega)) (by rfl) T.g_l_cell T.F_l_cell.kp T.b_l_cell .nil pass0 (pa_cons (pv 0) (pa_cons (pv 1) pa_nil))))
    (pss_cons (ps_set (i := 3) sc_l_ring.nd rfl (by first | exact Or.inl rfl | exact Or.inr rfl) (pe_lst (pa_cons pe_non (pa_cons pe_int (pa_cons pe_int (pa_cons pe_int pa_nil))))))
    (pss_cons (ps_set (i := 4) sc_l_ring.nd rfl (by first | exact Or.inl rfl | exact Or.inr rfl) (pe_lst pa_nil))
    (pss_cons (ps_for PassesOwn.never rfl (pi_rangeU1 rfl T.n_range (pa_cons (pe_op op_addU pe_int (pe_op op_mod (pv 2) (pe_ix ix_seq (pe_lst (pa_cons pe_int (pa_cons pe_int (pa_cons pe_int pa_nil)))) (pe_op op_mod (pe_op op_fdivW (pv 2) pe_int) pe_int) (fun _ _ => rfl)))) pa_nil)) (pg_name (i := 5) sc_l_ring.nd rfl (by first | exact Or.inl rfl | exact Or.inr rfl))
    (pss_cons (ps_set (i := 6) sc_l_ring.nd rfl (by first | exact Or.inl rfl | exact Or.inr rfl) (pe_call (ok_l_cell T) (hr.mono (by omega)) (by rfl) T.g_l_cell T.F_l_cell.kp T.b_l_cell .nil pass0 (pa_cons (pv 0) (pa_cons (pe_op op_addU (pe_op op_addU (pv 1) pe_int) (pv 5)) pa_nil))))
    (pss_one (ps_expr (pe_bm PySem.F.plainAttrs_list PySem.F.slot_list_append PySem.F.type_list_append mt_append (pv 4) (pa_cons (pe_ix ix_seq (pe_lst (pa_cons (pe_ix ix_seq (pv 3) (pe_op op_mod (pv 6) (pe_ix ix_seq (pe_lst (pa_cons pe_int (pa_cons pe_int (pa_cons pe_int pa_nil)))) (pe_op op_mod (pe_op op_fdivW (pv 2) pe_int) pe_int) (fun _ _ => rfl))) (fun _ _ => rfl)) (pa_cons (pe_call (ok_l_value T) (hr.mono (by omega)) (by rfl) T.g_l_value T.F_l_value.kp T.b_l_value .nil pass0 (pa_cons (pv 6) pa_nil)) pa_nil))) (pe_op op_fdivW (pe_op op_mod (pe_op op_fdivW (pv 2) pe_int) pe_int) pe_int) (fun _ _ => rfl)) pa_nil))))))
    (pss_one (ps_ret (pe_callTy call_tupleU (by rfl) T.n_tuple (by decide +kernel) (pa_cons (pe_op op_mulU (pv 4) (pe_ix ix_seq (pe_lst (pa_cons pe_int (pa_cons pe_int (pa_cons pe_int (pa_cons pe_int pa_nil))))) (pe_op op_mod (pe_op op_fdivW (pv 2) pe_int) pe_int) (fun _ _ => rfl))) pa_nil))))))))) (fun E xs out h => sd_l_ring E h)
theorem ok_l_least (T : Txt K mg Z) : FnOk P w K mg base CX0 1 T.a_l_least T.d_l_least ["_law_ring_here"] (spD K R_l_least) :=
  haveI := T.zf; ok_def (t := t_l_least K) T.F_l_least sc_l_least hl_l_least (fun cdv A outer s H E hr =>
    (pss_cons (ps_for PassesOwn.never rfl (pi_rangeU2 rfl T.n_range (pa_cons pe_int (pa_cons (pe_op op_addU (pe_callB call_len (by rfl) T.n_len (by decide +kernel) (pa_cons (pv 0) pa_nil)) pe_int) pa_nil))) (pg_name (i := 1) sc_l_least.nd rfl (by first | exact Or.inl rfl | exact Or.inr rfl))
    (pss_one (ps_if (PW.pt (pw_and (pt_cmpR (op_eqU hr.units) (pe_op op_mod (pe_callB call_len (by rfl) T.n_len (by decide +kernel) (pa_cons (pv 0) pa_nil)) (pv 1)) pe_int (nomark _)) (pw_and1 (pt_cmpR (op_eqU hr.units) (pv 0) (pe_op op_mulU (pe_slice sl_U (pv 0) po_none (po_some (pv 1))) (pe_op op_fdivW (pe_callB call_len (by rfl) T.n_len (by decide +kernel) (pa_cons (pv 0) pa_nil)) (pv 1))) (nomark _)))))
    (pss_one (ps_ret (pe_slice sl_U (pv 0) po_none (po_some (pv 1))))) pss_nil)))
    (pss_one (ps_ret (pv 0))))) (fun E xs out h => sd_l_least E h)
theorem ok_l_round (T : Txt K mg Z) : FnOk P w K mg base CX0 1 T.a_l_round T.d_l_round ["_law_ring_here", "_law_place_here"] (spD K R_l_round) :=
  haveI := T.zf; ok_def (t := t_l_round K) T.F_l_round sc_l_round hl_l_round (fun cdv A outer s H E hr =>
    (pss_one (ps_ret (pe_ix ix_seq (pv 0) (pe_op op_sub (pv 1) (pe_op op_mulU (pe_op op_fdivW (pv 1) (pe_callB call_len (by rfl) T.n_len (by decide +kernel) (pa_cons (pv 0) pa_nil))) (pe_callB call_len (by rfl) T.n_len (by decide +kernel) (pa_cons (pv 0) pa_nil)))) (fun _ _ => rfl))))) (fun E xs out h => sd_l_round E h)
theorem okr_l_alike (T : Txt K mg Z) (R1 R2 : List D → Out → Prop) (n : Nat) (hl : ∀ xs out, R1 xs out → xs.length = ["_law_found", "_law_due"].length) (hs : ∀ (E : WX) xs out, R1 xs out → SDef K E (t_l_alike K R2) (slots N_l_alike.length xs) out) (FR : FnOk P w K mg base CX0 (n + 0) T.a_l_alike T.d_l_alike ["_law_found", "_law_due"] (spD K R2)) : FnOk P w K mg base CX0 (n + 1) T.a_l_alike T.d_l_alike ["_law_found", "_law_due"] (spD K R1) :=
  ok_def (t := t_l_alike K R2) T.F_l_alike sc_l_alike hl (fun cdv A outer s H E hr =>
    (pss_cons (ps_if (pt_truth (pe_callB call_isU (by rfl) T.n_isinstance (by decide +kernel) (pa_cons (pv 1) (pa_cons (pe_tup (pa_cons (pe_bltn (v := .ty "list") (by rfl) T.n_list (by decide +kernel) rfl) (pa_cons (pe_bltn (v := .ty "tuple") (by rfl) T.n_tuple (by decide +kernel) rfl) pa_nil))) pa_nil))) (by intro _; rfl))
    (pss_cons (ps_if (PW.pt (pw_or (pt_cmpR (op_neU hr.units) (pe_callB call_isU (by rfl) T.n_isinstance (by decide +kernel) (pa_cons (pv 0) (pa_cons (pe_bltn (v := .ty "tuple") (by rfl) T.n_tuple (by decide +kernel) rfl) pa_nil))) (pe_callB call_isU (by rfl) T.n_isinstance (by decide +kernel) (pa_cons (pv 1) (pa_cons (pe_bltn (v := .ty "tuple") (by rfl) T.n_tuple (by decide +kernel) rfl) pa_nil))) (nomark _)) (pw_or1 (pt_not (pt_truth (pe_callB call_isU (by rfl) T.n_isinstance (by decide +kernel) (pa_cons (pv 0) (pa_cons (pe_tup (pa_cons (pe_bltn (v := .ty "list") (by rfl) T.n_list (by decide +kernel) rfl) (pa_cons (pe_bltn (v := .ty "tuple") (by rfl) T.n_tuple (by decide +kernel) rfl) pa_nil))) pa_nil))) (by intro _; rfl))))))
    (pss_one (ps_ret pe_bl)) pss_nil)
    (pss_cons (ps_if (pt_cmpR (op_neU hr.units) (pe_callB call_len (by rfl) T.n_len (by decide +kernel) (pa_cons (pv 0) pa_nil)) (pe_callB call_len (by rfl) T.n_len (by decide +kernel) (pa_cons (pv 1) pa_nil)) (nomark _))
    (pss_one (ps_ret pe_bl)) pss_nil)
    (pss_one (ps_ret (pe_callB (cr_all rfl) (by rfl) T.n_all (by decide +kernel) (pa_cons (pe_lc (own := [("_law_k", 2)]) (by rfl) sc_l_alike.nd (pi_rangeU1 rfl T.n_range (pa_cons (pe_callB call_len (by rfl) T.n_len (by decide +kernel) (pa_cons (pv 1) pa_nil)) pa_nil)) (blkOk_by (own := [("_law_k", 2)]) (N := N_l_alike) (sc := defScope s_l_alike) (by decide +kernel)) (fun _ _ _ _ _ => (pg_name (i := 2) sc_l_alike.nd rfl (by first | exact Or.inl rfl | exact Or.inr rfl))) (fun _ _ _ _ _ => pts_nil) (fun _ _ _ _ _ => (pe_call FR (hr.mono (by omega)) (by rfl) T.g_l_alike T.F_l_alike.kp T.b_l_alike .nil pass0 (pa_cons (pe_ix ix_seq (pv 0) (pv 2) (fun _ _ => rfl)) (pa_cons (pe_ix ix_seq (pv 1) (pv 2) (fun _ _ => rfl)) pa_nil))))) pa_nil)))))) pss_nil)
    (pss_cons (ps_if (PW.pt (pw_or (pt_cmpR (op_neU hr.units) (pe_callB call_isU (by rfl) T.n_isinstance (by decide +kernel) (pa_cons (pv 0) (pa_cons (pe_bltn (v := .ty "bool") (by rfl) T.n_bool (by decide +kernel) rfl) pa_nil))) (pe_callB call_isU (by rfl) T.n_isinstance (by decide +kernel) (pa_cons (pv 1) (pa_cons (pe_bltn (v := .ty "bool") (by rfl) T.n_bool (by decide +kernel) rfl) pa_nil))) (nomark _)) (pw_or1 (pt_cmpR (op_neU hr.units) (pe_cmpR op_isN1 (pv 0) pe_non (nomark _)) (pe_cmpR op_isN1 (pv 1) pe_non (nomark _)) (nomark _)))))
    (pss_one (ps_ret pe_bl)) pss_nil)
    (pss_one (ps_ret (pe_cmpR (op_eqU hr.units) (pv 0) (pv 1) (nomark _))))))) hs
theorem okn_l_alike (T : Txt K mg Z) : ∀ n : Nat, FnOk P w K mg base CX0 (n + 1) T.a_l_alike T.d_l_alike ["_law_found", "_law_due"] (spD K (Rn_l_alike n))
  | 0 => haveI := T.zf; okr_l_alike T _ NoR 0 (hl_l_alike 0) (fun E xs out h => sd_l_alike E 0 h) fnok_none
  | n + 1 => haveI := T.zf; okr_l_alike T _ (Rn_l_alike n) (n + 1) (hl_l_alike (n + 1)) (fun E xs out h => sd_l_alike E (n + 1) h) ((okn_l_alike T n).mono (by omega))
theorem ok_l_alike (T : Txt K mg Z) : FnOk P w K mg base CX0 3 T.a_l_alike T.d_l_alike ["_law_found", "_law_due"] (spD K R_l_alike) := okn_l_alike T 2
theorem ok_l_refusal (T : Txt K mg Z) : FnOk P w K mg base CX0 1 T.a_l_refusal T.d_l_refusal ["_law_error"] (spD K (R_l_refusal Z)) :=
  haveI := T.zf; ok_def (t := t_l_refusal K Z) T.F_l_refusal sc_l_refusal hl_l_refusal (fun cdv A outer s H E hr =>
    (pss_cons (ps_set (i := 1) sc_l_refusal.nd rfl (by first | exact Or.inl rfl | exact Or.inr rfl) (pe_lst (pa_cons (pe_callB call_isU (by rfl) T.n_isinstance (by decide +kernel) (pa_cons (pv 0) (pa_cons (pe_glob (v := .ref Z.NoSpan) (by rfl) T.g_NoSpan rfl) pa_nil))) (pa_cons (pe_callB call_isU (by rfl) T.n_isinstance (by decide +kernel) (pa_cons (pv 0) (pa_cons (pe_glob (v := .ref Z.NoValue) (by rfl) T.g_NoValue rfl) pa_nil))) (pa_cons (pe_callB call_isU (by rfl) T.n_isinstance (by decide +kernel) (pa_cons (pv 0) (pa_cons (pe_glob (v := .ref Z.NoPlace) (by rfl) T.g_NoPlace rfl) pa_nil))) pa_nil)))))
    (pss_cons (ps_set (i := 1) sc_l_refusal.nd rfl (by first | exact Or.inl rfl | exact Or.inr rfl) (pe_op op_addU (pv 1) (pe_lst (pa_cons (pe_callB call_isU (by rfl) T.n_isinstance (by decide +kernel) (pa_cons (pv 0) (pa_cons (pe_glob (v := .ref Z.NoCount) (by rfl) T.g_NoCount rfl) pa_nil))) (pa_cons (pe_callB call_isU (by rfl) T.n_isinstance (by decide +kernel) (pa_cons (pv 0) (pa_cons (pe_glob (v := .ref Z.NoWheel) (by rfl) T.g_NoWheel rfl) pa_nil))) (pa_cons (pe_callB call_isU (by rfl) T.n_isinstance (by decide +kernel) (pa_cons (pv 0) (pa_cons (pe_glob (v := .ref Z.NoRow) (by rfl) T.g_NoRow rfl) pa_nil))) pa_nil))))))
    (pss_cons (ps_set (i := 1) sc_l_refusal.nd rfl (by first | exact Or.inl rfl | exact Or.inr rfl) (pe_op op_addU (pv 1) (pe_lst (pa_cons (pe_callB call_isU (by rfl) T.n_isinstance (by decide +kernel) (pa_cons (pv 0) (pa_cons (pe_glob (v := .ref Z.NoText) (by rfl) T.g_NoText rfl) pa_nil))) (pa_cons (pe_callB call_isU (by rfl) T.n_isinstance (by decide +kernel) (pa_cons (pv 0) (pa_cons (pe_glob (v := .ref Z.TooMany) (by rfl) T.g_TooMany rfl) pa_nil))) pa_nil)))))
    (pss_cons (ps_if (PW.pt (pw_or (pt_cmpR (op_neU hr.units) (pe_bm PySem.F.plainAttrs_list PySem.F.slot_list_count PySem.F.type_list_count mt_count (pv 1) (pa_cons pe_bl pa_nil)) pe_int (nomark _)) (pw_or1 (pt_not (pt_truth (pe_callB call_isU (by rfl) T.n_isinstance (by decide +kernel) (pa_cons (pv 0) (pa_cons (pe_bltn (v := .ty "ValueError") (by rfl) T.n_ValueError (by decide +kernel) rfl) pa_nil))) (by intro _; rfl))))))
    (pss_one (ps_ret pe_str)) pss_nil)
    (pss_one (ps_ret (pe_ix ix_seq (pe_lst (pa_cons pe_str (pa_cons pe_str (pa_cons pe_str (pa_cons pe_str (pa_cons pe_str (pa_cons pe_str (pa_cons pe_str (pa_cons pe_str pa_nil))))))))) (pe_bm PySem.F.plainAttrs_list PySem.F.slot_list_index PySem.F.type_list_index mt_index (pv 1) (pa_cons pe_bl pa_nil)) (fun _ _ => rfl))))))))) (fun E xs out h => sd_l_refusal E h)
theorem ok_l_refused (T : Txt K mg Z) : FnOk P w K mg base CX0 8 T.a_l_refused T.d_l_refused ["_law_way", "_law_ring_here", "_law_thing"] (spD K R_l_refused) :=
  haveI := T.zf; ok_def (t := t_l_refused K Z) T.F_l_refused sc_l_refused hl_l_refused (fun cdv A outer s H E hr =>
    (pss_cons (ps_set (i := 3) sc_l_refused.nd rfl (by first | exact Or.inl rfl | exact Or.inr rfl) pe_non)
    (pss_cons (ps_try_keep (i := 4) (j := 3) rfl rfl rfl sc_l_refused.nd rfl rfl rfl (by first | exact Or.inl rfl | exact Or.inr rfl) ⟨by rfl, by decide, .inl T.g_FarError⟩ (fun W pn xe tk po =>
    (pss_one (ps_if (pt_cmpR (op_eqU hr.units) (pv 0) pe_int (nomark _))
    (pss_one (ps_expr (pe_callS (ok_moved_wheel T) (hr.mono (by omega)) (by rfl) T.g_moved_wheel T.F_moved_wheel.kp T.b_moved_wheel (fun σ => passAt tk σ) (pa_cons (pe_makeS T.mk_Wheel (ok_Wheel_init T) (hr.mono (by omega)) (by rfl) T.g_Wheel T.b_Wheel_init (fun σ => passAt tk σ) (pa_cons (pv 1) pa_nil)) (pa_cons (pv 2) pa_nil))))) (pss_one (ps_expr (pe_callS (ok_mirrored_wheel T) (hr.mono (by omega)) (by rfl) T.g_mirrored_wheel T.F_mirrored_wheel.kp T.b_mirrored_wheel (fun σ => passAt tk σ) (pa_cons (pe_makeS T.mk_Wheel (ok_Wheel_init T) (hr.mono (by omega)) (by rfl) T.g_Wheel T.b_Wheel_init (fun σ => passAt tk σ) (pa_cons (pv 1) pa_nil)) (pa_cons (pv 2) pa_nil)))))))) (fun a oe pn => pss_one (ps_set (i := 3) sc_l_refused.nd rfl (by first | exact Or.inl rfl | exact Or.inr rfl) (pv 4))))
    (pss_one (ps_ret (pe_andT (pe_cmpR op_notN1 (pv 3) pe_non (nomark _)) (pe_one (pe_cmpR (op_eqU hr.units) (pe_call (ok_l_refusal T) (hr.mono (by omega)) (by rfl) T.g_l_refusal T.F_l_refusal.kp T.b_l_refusal .nil pass0 (pa_cons (pv 3) pa_nil)) pe_str (nomark _))))))))) (fun E xs out h => sd_l_refused E h)
theorem ok_l_same_right (T : Txt K mg Z) : FnOk P w K mg base CX0 6 T.a_l_same_right T.d_l_same_right ["_law_ring_here", "_law_other"] (spD K R_l_same_right) :=
  haveI := T.zf; ok_def (t := t_l_same_right K Z) T.F_l_same_right sc_l_same_right hl_l_same_right (fun cdv A outer s H E hr =>
    (pss_cons (ps_set (i := 2) sc_l_same_right.nd rfl (by first | exact Or.inl rfl | exact Or.inr rfl) (pe_cmpR (op_eqU hr.units) (pe_call (ok_l_least T) (hr.mono (by omega)) (by rfl) T.g_l_least T.F_l_least.kp T.b_l_least .nil pass0 (pa_cons (pv 0) pa_nil)) (pe_call (ok_l_least T) (hr.mono (by omega)) (by rfl) T.g_l_least T.F_l_least.kp T.b_l_least .nil pass0 (pa_cons (pv 1) pa_nil)) (nomark _)))
    (pss_cons (ps_set (i := 3) sc_l_same_right.nd rfl (by first | exact Or.inl rfl | exact Or.inr rfl) (pe_lst (pa_cons (pe_call (ok_same_wheels T) (hr.mono (by omega)) (by rfl) T.g_same_wheels T.F_same_wheels.kp T.b_same_wheels .nil pass0 (pa_cons (pe_makeS T.mk_Wheel (ok_Wheel_init T) (hr.mono (by omega)) (by rfl) T.g_Wheel T.b_Wheel_init (fun _ => passC) (pa_cons (pv 0) pa_nil)) (pa_cons (pe_makeS T.mk_Wheel (ok_Wheel_init T) (hr.mono (by omega)) (by rfl) T.g_Wheel T.b_Wheel_init (fun _ => passC) (pa_cons (pv 1) pa_nil)) pa_nil))) (pa_cons (pe_call (ok_same_wheels T) (hr.mono (by omega)) (by rfl) T.g_same_wheels T.F_same_wheels.kp T.b_same_wheels .nil pass0 (pa_cons (pe_makeS T.mk_Wheel (ok_Wheel_init T) (hr.mono (by omega)) (by rfl) T.g_Wheel T.b_Wheel_init (fun _ => passC) (pa_cons (pv 1) pa_nil)) (pa_cons (pe_makeS T.mk_Wheel (ok_Wheel_init T) (hr.mono (by omega)) (by rfl) T.g_Wheel T.b_Wheel_init (fun _ => passC) (pa_cons (pv 0) pa_nil)) pa_nil))) pa_nil))))
    (pss_one (ps_ret (pe_call (ok_l_alike T) (hr.mono (by omega)) (by rfl) T.g_l_alike T.F_l_alike.kp T.b_l_alike .nil pass0 (pa_cons (pv 3) (pa_cons (pe_lst (pa_cons (pv 2) (pa_cons (pv 2) pa_nil))) pa_nil)))))))) (fun E xs out h => sd_l_same_right E h)
theorem ok_l_great_right (T : Txt K mg Z) : FnOk P w K mg base CX0 7 T.a_l_great_right T.d_l_great_right ["_law_cell_here"] (spD K R_l_great_right) :=
  haveI := T.zf; ok_def (t := t_l_great_right K Z) T.F_l_great_right sc_l_great_right hl_l_great_right (fun cdv A outer s H E hr =>
    (pss_cons (ps_set (i := 1) sc_l_great_right.nd rfl (by first | exact Or.inl rfl | exact Or.inr rfl) (pe_op op_mod (pv 0) pe_int))
    (pss_cons (ps_set (i := 2) sc_l_great_right.nd rfl (by first | exact Or.inl rfl | exact Or.inr rfl) (pe_callTy call_tupleU (by rfl) T.n_tuple (by decide +kernel) (pa_cons (pe_op op_addU (pe_op op_addU (pe_op op_mulU (pe_lst (pa_cons pe_int pa_nil)) (pv 1)) (pe_lst (pa_cons pe_int pa_nil))) (pe_op op_mulU (pe_lst (pa_cons pe_int pa_nil)) (pe_op op_sub pe_int (pv 1)))) pa_nil)))
    (pss_cons (ps_set (i := 3) sc_l_great_right.nd rfl (by first | exact Or.inl rfl | exact Or.inr rfl) (pe_callTy call_tupleU (by rfl) T.n_tuple (by decide +kernel) (pa_cons (pe_op op_addU (pe_op op_addU (pe_op op_mulU (pe_lst (pa_cons pe_int pa_nil)) (pe_op op_mod (pv 1) pe_int)) (pe_lst (pa_cons pe_non pa_nil))) (pe_op op_mulU (pe_lst (pa_cons pe_int pa_nil)) (pe_op op_sub pe_int (pe_op op_mod (pv 1) pe_int)))) pa_nil)))
    (pss_cons (ps_set (i := 4) sc_l_great_right.nd rfl (by first | exact Or.inl rfl | exact Or.inr rfl) (pe_lst (pa_cons (pe_fld (pe_call (ok_least_wheel T) (hr.mono (by omega)) (by rfl) T.g_least_wheel T.F_least_wheel.kp T.b_least_wheel .nil pass0 (pa_cons (pe_makeS T.mk_Wheel (ok_Wheel_init T) (hr.mono (by omega)) (by rfl) T.g_Wheel T.b_Wheel_init (fun _ => passC) (pa_cons (pv 2) pa_nil)) pa_nil)) rfl) (pa_cons (pe_fld (pe_call (ok_least_wheel T) (hr.mono (by omega)) (by rfl) T.g_least_wheel T.F_least_wheel.kp T.b_least_wheel .nil pass0 (pa_cons (pe_makeS T.mk_Wheel (ok_Wheel_init T) (hr.mono (by omega)) (by rfl) T.g_Wheel T.b_Wheel_init (fun _ => passC) (pa_cons (pe_op op_mulU (pv 3) pe_int) pa_nil)) pa_nil)) rfl) pa_nil))))
    (pss_one (ps_ret (pe_call (ok_l_alike T) (hr.mono (by omega)) (by rfl) T.g_l_alike T.F_l_alike.kp T.b_l_alike .nil pass0 (pa_cons (pv 4) (pa_cons (pe_lst (pa_cons (pv 2) (pa_cons (pv 3) pa_nil))) pa_nil)))))))))) (fun E xs out h => sd_l_great_right E h)
theorem ok_law (T : Txt K mg Z) : FnOk P w K mg base CX0 9 T.a_law T.d_law ["_law_script"] (spD K R_law) :=
  haveI := T.zf; ok_def (t := t_law K Z) T.F_law sc_law hl_law (fun cdv A outer s H E hr =>
    (pss_cons (ps_for PassesOwn.never rfl (pi_rangeU1 rfl T.n_range (pa_cons (pe_callB (call_max2 rfl) (by rfl) T.n_max (by decide +kernel) (pa_cons pe_int (pa_cons (pe_callB (call_min2 rfl) (by rfl) T.n_min (by decide +kernel) (pa_cons (pe_callB call_len (by rfl) T.n_len (by decide +kernel) (pa_cons (pv 0) pa_nil)) (pa_cons pe_int pa_nil))) pa_nil))) pa_nil)) (pg_name (i := 1) sc_law.nd rfl (by first | exact Or.inl rfl | exact Or.inr rfl))
    (pss_cons (ps_set (i := 2) sc_law.nd rfl (by first | exact Or.inl rfl | exact Or.inr rfl) (pe_call (ok_l_cell T) (hr.mono (by omega)) (by rfl) T.g_l_cell T.F_l_cell.kp T.b_l_cell .nil pass0 (pa_cons (pv 0) (pa_cons (pe_op op_addU pe_int (pv 1)) pa_nil))))
    (pss_cons (ps_set (i := 3) sc_law.nd rfl (by first | exact Or.inl rfl | exact Or.inr rfl) (pe_call (ok_l_ring T) (hr.mono (by omega)) (by rfl) T.g_l_ring T.F_l_ring.kp T.b_l_ring .nil pass0 (pa_cons (pv 0) (pa_cons (pe_op op_mulU pe_int (pv 1)) pa_nil))))
    (pss_cons (ps_if (pt_cmpR (op_eqU hr.units) (pe_op op_mod (pe_op op_fdivW (pv 2) pe_int) pe_int) pe_int (nomark _))
    (pss_one (ps_set (i := 3) sc_law.nd rfl (by first | exact Or.inl rfl | exact Or.inr rfl) (pe_op op_addU (pe_op op_mulU (pv 3) pe_int) (pe_slice sl_U (pv 3) po_none (po_some pe_int))))) pss_nil)
    (pss_cons (ps_set (i := 4) sc_law.nd rfl (by first | exact Or.inl rfl | exact Or.inr rfl) (pe_makeS T.mk_Wheel (ok_Wheel_init T) (hr.mono (by omega)) (by rfl) T.g_Wheel T.b_Wheel_init (fun _ => passC) (pa_cons (pv 3) pa_nil)))
    (pss_cons (ps_if (pt_not (pt_truth (pe_call (ok_l_alike T) (hr.mono (by omega)) (by rfl) T.g_l_alike T.F_l_alike.kp T.b_l_alike .nil pass0 (pa_cons (pe_fld (pe_call (ok_least_wheel T) (hr.mono (by omega)) (by rfl) T.g_least_wheel T.F_least_wheel.kp T.b_least_wheel .nil pass0 (pa_cons (pv 4) pa_nil)) rfl) (pa_cons (pe_call (ok_l_least T) (hr.mono (by omega)) (by rfl) T.g_l_least T.F_l_least.kp T.b_l_least .nil pass0 (pa_cons (pv 3) pa_nil)) pa_nil))) (by intro _; rfl)))
    (pss_one (ps_ret pe_bl)) pss_nil)
    (pss_cons (ps_if (pt_not (pt_truth (pe_call (ok_l_alike T) (hr.mono (by omega)) (by rfl) T.g_l_alike T.F_l_alike.kp T.b_l_alike .nil pass0 (pa_cons (pe_methS (pe_call (ok_least_wheel T) (hr.mono (by omega)) (by rfl) T.g_least_wheel T.F_least_wheel.kp T.b_least_wheel .nil pass0 (pa_cons (pv 4) pa_nil)) T.zf.ins_Wheel.cl T.me_Wheel_tells (ok_Wheel_tells T) (hr.mono (by omega)) T.b_Wheel_tells (fun _ => pass0C) (pa_cons (pv 2) pa_nil)) (pa_cons (pe_call (ok_l_round T) (hr.mono (by omega)) (by rfl) T.g_l_round T.F_l_round.kp T.b_l_round .nil pass0 (pa_cons (pv 3) (pa_cons (pv 2) pa_nil))) pa_nil))) (by intro _; rfl)))
    (pss_one (ps_ret pe_bl)) pss_nil)
    (pss_cons (ps_set (i := 5) sc_law.nd rfl (by first | exact Or.inl rfl | exact Or.inr rfl) (pe_op op_mod (pe_op op_fdivW (pv 2) pe_int) (pe_callB call_len (by rfl) T.n_len (by decide +kernel) (pa_cons (pv 3) pa_nil))))
    (pss_cons (ps_set (i := 6) sc_law.nd rfl (by first | exact Or.inl rfl | exact Or.inr rfl) (pe_op op_addU (pe_op op_addU (pe_slice sl_U (pv 3) po_none (po_some (pv 5))) (pe_tup (pa_cons (pe_call (ok_l_value T) (hr.mono (by omega)) (by rfl) T.g_l_value T.F_l_value.kp T.b_l_value .nil pass0 (pa_cons (pe_op op_fdivW (pv 2) pe_int) pa_nil)) pa_nil))) (pe_slice sl_U (pv 3) (po_some (pe_op op_addU (pv 5) pe_int)) po_none)))
    (pss_cons (ps_set (i := 7) sc_law.nd rfl (by first | exact Or.inl rfl | exact Or.inr rfl) (pe_ix ix_seq (pe_lst (pa_cons (pe_op op_mulU (pv 3) pe_int) (pa_cons (pv 6) (pa_cons (pe_op op_addU (pe_slice sl_U (pv 3) (po_some pe_int) po_none) (pe_slice sl_U (pv 3) po_none (po_some pe_int))) (pa_cons (pe_op op_mulU (pv 3) pe_int) pa_nil))))) (pe_op op_mod (pv 2) pe_int) (fun _ _ => rfl)))
    (pss_cons (ps_if (pt_not (pt_truth (pe_call (ok_l_same_right T) (hr.mono (by omega)) (by rfl) T.g_l_same_right T.F_l_same_right.kp T.b_l_same_right .nil pass0 (pa_cons (pv 3) (pa_cons (pv 7) pa_nil))) (by intro _; rfl)))
    (pss_one (ps_ret pe_bl)) pss_nil)
    (pss_cons (ps_set (i := 8) sc_law.nd rfl (by first | exact Or.inl rfl | exact Or.inr rfl) (pe_call (ok_l_place T) (hr.mono (by omega)) (by rfl) T.g_l_place T.F_l_place.kp T.b_l_place .nil pass0 (pa_cons (pe_op op_fdivW (pv 2) pe_int) pa_nil)))
    (pss_cons (ps_set (i := 9) sc_law.nd rfl (by first | exact Or.inl rfl | exact Or.inr rfl) (pe_callTy call_tupleU (by rfl) T.n_tuple (by decide +kernel) (pa_cons (pe_lc (own := [("_law_place_here", 10)]) (by rfl) sc_law.nd (pi_rangeU1 rfl T.n_range (pa_cons (pe_callB call_len (by rfl) T.n_len (by decide +kernel) (pa_cons (pv 3) pa_nil)) pa_nil)) (blkOk_by (own := [("_law_place_here", 10)]) (N := N_law) (sc := defScope s_law) (by decide +kernel)) (fun _ _ _ _ _ => (pg_name (i := 10) sc_law.nd rfl (by first | exact Or.inl rfl | exact Or.inr rfl))) (fun _ _ _ _ _ => pts_nil) (fun _ _ _ _ _ => (pe_call (ok_l_round T) (hr.mono (by omega)) (by rfl) T.g_l_round T.F_l_round.kp T.b_l_round .nil pass0 (pa_cons (pv 3) (pa_cons (pe_op op_sub (pv 10) (pv 8)) pa_nil))))) pa_nil)))
    (pss_cons (ps_if (pt_not (pt_truth (pe_call (ok_l_alike T) (hr.mono (by omega)) (by rfl) T.g_l_alike T.F_l_alike.kp T.b_l_alike .nil pass0 (pa_cons (pe_fld (pe_call (ok_moved_wheel T) (hr.mono (by omega)) (by rfl) T.g_moved_wheel T.F_moved_wheel.kp T.b_moved_wheel .nil passL (pa_cons (pv 4) (pa_cons (pv 8) pa_nil))) rfl) (pa_cons (pe_call (ok_l_least T) (hr.mono (by omega)) (by rfl) T.g_l_least T.F_l_least.kp T.b_l_least .nil pass0 (pa_cons (pv 9) pa_nil)) pa_nil))) (by intro _; rfl)))
    (pss_one (ps_ret pe_bl)) pss_nil)
    (pss_cons (ps_set (i := 9) sc_law.nd rfl (by first | exact Or.inl rfl | exact Or.inr rfl) (pe_callTy call_tupleU (by rfl) T.n_tuple (by decide +kernel) (pa_cons (pe_lc (own := [("_law_place_here", 10)]) (by rfl) sc_law.nd (pi_rangeU1 rfl T.n_range (pa_cons (pe_callB call_len (by rfl) T.n_len (by decide +kernel) (pa_cons (pv 3) pa_nil)) pa_nil)) (blkOk_by (own := [("_law_place_here", 10)]) (N := N_law) (sc := defScope s_law) (by decide +kernel)) (fun _ _ _ _ _ => (pg_name (i := 10) sc_law.nd rfl (by first | exact Or.inl rfl | exact Or.inr rfl))) (fun _ _ _ _ _ => pts_nil) (fun _ _ _ _ _ => (pe_call (ok_l_round T) (hr.mono (by omega)) (by rfl) T.g_l_round T.F_l_round.kp T.b_l_round .nil pass0 (pa_cons (pv 3) (pa_cons (pe_op op_sub (pv 8) (pv 10)) pa_nil))))) pa_nil)))
    (pss_cons (ps_if (pt_not (pt_truth (pe_call (ok_l_alike T) (hr.mono (by omega)) (by rfl) T.g_l_alike T.F_l_alike.kp T.b_l_alike .nil pass0 (pa_cons (pe_fld (pe_call (ok_mirrored_wheel T) (hr.mono (by omega)) (by rfl) T.g_mirrored_wheel T.F_mirrored_wheel.kp T.b_mirrored_wheel .nil passL (pa_cons (pv 4) (pa_cons (pv 8) pa_nil))) rfl) (pa_cons (pe_call (ok_l_least T) (hr.mono (by omega)) (by rfl) T.g_l_least T.F_l_least.kp T.b_l_least .nil pass0 (pa_cons (pv 9) pa_nil)) pa_nil))) (by intro _; rfl)))
    (pss_one (ps_ret pe_bl)) pss_nil)
    (pss_one (ps_if (pt_not (pt_truth (pe_call (ok_l_refused T) (hr.mono (by omega)) (by rfl) T.g_l_refused T.F_l_refused.kp T.b_l_refused .nil pass0 (pa_cons (pe_op op_mod (pe_op op_fdivW (pv 2) pe_int) pe_int) (pa_cons (pv 3) (pa_cons (pe_ix ix_seq (pe_lst (pa_cons pe_non (pa_cons pe_bl (pa_cons pe_str (pa_cons (pe_tup (pa_cons pe_int pa_nil)) (pa_cons (pe_lst pa_nil) (pa_cons pe_bl pa_nil))))))) (pe_op op_mod (pe_op op_fdivW (pv 2) pe_int) pe_int) (fun _ _ => rfl)) pa_nil)))) (by intro _; rfl)))
    (pss_one (ps_ret pe_bl)) pss_nil))))))))))))))))))
    (pss_one (ps_ret (pe_call (ok_l_great_right T) (hr.mono (by omega)) (by rfl) T.g_l_great_right T.F_l_great_right.kp T.b_l_great_right .nil pass0 (pa_cons (pe_call (ok_l_cell T) (hr.mono (by omega)) (by rfl) T.g_l_cell T.F_l_cell.kp T.b_l_cell .nil pass0 (pa_cons (pv 0) (pa_cons pe_int pa_nil))) pa_nil)))))) (fun E xs out h => sd_law E h)
end
theorem all_mk {l : PySem.W.OpenLaw} {w : World} {K : PySem.W.Frag} {h : Heap} {mg : Str → Option Value} {fa : Addr} (X : K.In h) (G : h.Ns mainGlobals mg) (hfa : mg "law" = some (.ref fa))
    {c_FarError c_NoSpan c_NoValue c_NoPlace c_NoCount c_NoWheel c_NoRow c_TooMany c_NoText c_Wheel : Addr}
    (ga_FarError : PySem.W.nsIn K mainGlobals "FarError" = some (some (.ref c_FarError)))
    (ga_NoSpan : PySem.W.nsIn K mainGlobals "NoSpan" = some (some (.ref c_NoSpan)))
    (ga_NoValue : PySem.W.nsIn K mainGlobals "NoValue" = some (some (.ref c_NoValue)))
    (ga_NoPlace : PySem.W.nsIn K mainGlobals "NoPlace" = some (some (.ref c_NoPlace)))
    (ga_NoCount : PySem.W.nsIn K mainGlobals "NoCount" = some (some (.ref c_NoCount)))
    (ga_NoWheel : PySem.W.nsIn K mainGlobals "NoWheel" = some (some (.ref c_NoWheel)))
    (ga_NoRow : PySem.W.nsIn K mainGlobals "NoRow" = some (some (.ref c_NoRow)))
    (ga_TooMany : PySem.W.nsIn K mainGlobals "TooMany" = some (some (.ref c_TooMany)))
    (ga_NoText : PySem.W.nsIn K mainGlobals "NoText" = some (some (.ref c_NoText)))
    (ga_Wheel : PySem.W.nsIn K mainGlobals "Wheel" = some (some (.ref c_Wheel)))
    {f_is_place : Addr} {od_is_place an_is_place : Option Addr} {sl_is_place : Array (Option Value)} {oc_is_place kV_is_place dc_is_place pm_is_place cd_is_place ct_is_place : Value}
    (a_is_place : PySem.W.nsIn K mainGlobals "is_place" = some (some (.ref f_is_place)))
    (l_is_place : K.lookup f_is_place = some ⟨oc_is_place, od_is_place, .func (PySem.W.fnOf "is_place" "is_place" (defArgs s_is_place) (defBody s_is_place) (defScope s_is_place) .none kV_is_place dc_is_place pm_is_place an_is_place cd_is_place ct_is_place), sl_is_place⟩)
    (c_is_place : PySem.W.codeIn K cd_is_place "is_place" = true)
    (k_is_place : PySem.W.keepIn K (.ref f_is_place) = true)
    {f_is_value : Addr} {od_is_value an_is_value : Option Addr} {sl_is_value : Array (Option Value)} {oc_is_value kV_is_value dc_is_value pm_is_value cd_is_value ct_is_value : Value}
    (a_is_value : PySem.W.nsIn K mainGlobals "is_value" = some (some (.ref f_is_value)))
    (l_is_value : K.lookup f_is_value = some ⟨oc_is_value, od_is_value, .func (PySem.W.fnOf "is_value" "is_value" (defArgs s_is_value) (defBody s_is_value) (defScope s_is_value) .none kV_is_value dc_is_value pm_is_value an_is_value cd_is_value ct_is_value), sl_is_value⟩)
    (c_is_value : PySem.W.codeIn K cd_is_value "is_value" = true)
    (k_is_value : PySem.W.keepIn K (.ref f_is_value) = true)
    {f_are_values : Addr} {od_are_values an_are_values : Option Addr} {sl_are_values : Array (Option Value)} {oc_are_values kV_are_values dc_are_values pm_are_values cd_are_values ct_are_values : Value}
    (a_are_values : PySem.W.nsIn K mainGlobals "are_values" = some (some (.ref f_are_values)))
    (l_are_values : K.lookup f_are_values = some ⟨oc_are_values, od_are_values, .func (PySem.W.fnOf "are_values" "are_values" (defArgs s_are_values) (defBody s_are_values) (defScope s_are_values) .none kV_are_values dc_are_values pm_are_values an_are_values cd_are_values ct_are_values), sl_are_values⟩)
    (c_are_values : PySem.W.codeIn K cd_are_values "are_values" = true)
    (k_are_values : PySem.W.keepIn K (.ref f_are_values) = true)
    {f_Wheel_init : Addr} {od_Wheel_init an_Wheel_init : Option Addr} {sl_Wheel_init : Array (Option Value)} {oc_Wheel_init kV_Wheel_init dc_Wheel_init pm_Wheel_init cd_Wheel_init ct_Wheel_init : Value}
    (a_Wheel_init : PySem.W.findIn K (.ref c_Wheel) "__init__" = some (some (.ref f_Wheel_init)))
    (i_Wheel_init : PySem.W.isFn K (.ref f_Wheel_init) = true)
    (l_Wheel_init : K.lookup f_Wheel_init = some ⟨oc_Wheel_init, od_Wheel_init, .func (PySem.W.fnOf "__init__" "Wheel.__init__" (defArgs s_Wheel_init) (defBody s_Wheel_init) (defScope s_Wheel_init) .none kV_Wheel_init dc_Wheel_init pm_Wheel_init an_Wheel_init cd_Wheel_init ct_Wheel_init), sl_Wheel_init⟩)
    (c_Wheel_init : PySem.W.codeIn K cd_Wheel_init "Wheel.__init__" = true)
    (k_Wheel_init : PySem.W.keepIn K (.ref f_Wheel_init) = true)
    {f_need_place : Addr} {od_need_place an_need_place : Option Addr} {sl_need_place : Array (Option Value)} {oc_need_place kV_need_place dc_need_place pm_need_place cd_need_place ct_need_place : Value}
    (a_need_place : PySem.W.nsIn K mainGlobals "need_place" = some (some (.ref f_need_place)))
    (l_need_place : K.lookup f_need_place = some ⟨oc_need_place, od_need_place, .func (PySem.W.fnOf "need_place" "need_place" (defArgs s_need_place) (defBody s_need_place) (defScope s_need_place) .none kV_need_place dc_need_place pm_need_place an_need_place cd_need_place ct_need_place), sl_need_place⟩)
    (c_need_place : PySem.W.codeIn K cd_need_place "need_place" = true)
    (k_need_place : PySem.W.keepIn K (.ref f_need_place) = true)
    {f_Wheel_tells : Addr} {od_Wheel_tells an_Wheel_tells : Option Addr} {sl_Wheel_tells : Array (Option Value)} {oc_Wheel_tells kV_Wheel_tells dc_Wheel_tells pm_Wheel_tells cd_Wheel_tells ct_Wheel_tells : Value}
    (a_Wheel_tells : PySem.W.findIn K (.ref c_Wheel) "tells" = some (some (.ref f_Wheel_tells)))
    (i_Wheel_tells : PySem.W.isFn K (.ref f_Wheel_tells) = true)
    (l_Wheel_tells : K.lookup f_Wheel_tells = some ⟨oc_Wheel_tells, od_Wheel_tells, .func (PySem.W.fnOf "tells" "Wheel.tells" (defArgs s_Wheel_tells) (defBody s_Wheel_tells) (defScope s_Wheel_tells) .none kV_Wheel_tells dc_Wheel_tells pm_Wheel_tells an_Wheel_tells cd_Wheel_tells ct_Wheel_tells), sl_Wheel_tells⟩)
    (c_Wheel_tells : PySem.W.codeIn K cd_Wheel_tells "Wheel.tells" = true)
    (k_Wheel_tells : PySem.W.keepIn K (.ref f_Wheel_tells) = true)
    {f_least_round : Addr} {od_least_round an_least_round : Option Addr} {sl_least_round : Array (Option Value)} {oc_least_round kV_least_round dc_least_round pm_least_round cd_least_round ct_least_round : Value}
    (a_least_round : PySem.W.nsIn K mainGlobals "least_round" = some (some (.ref f_least_round)))
    (l_least_round : K.lookup f_least_round = some ⟨oc_least_round, od_least_round, .func (PySem.W.fnOf "least_round" "least_round" (defArgs s_least_round) (defBody s_least_round) (defScope s_least_round) .none kV_least_round dc_least_round pm_least_round an_least_round cd_least_round ct_least_round), sl_least_round⟩)
    (c_least_round : PySem.W.codeIn K cd_least_round "least_round" = true)
    (k_least_round : PySem.W.keepIn K (.ref f_least_round) = true)
    {f_least_wheel : Addr} {od_least_wheel an_least_wheel : Option Addr} {sl_least_wheel : Array (Option Value)} {oc_least_wheel kV_least_wheel dc_least_wheel pm_least_wheel cd_least_wheel ct_least_wheel : Value}
    (a_least_wheel : PySem.W.nsIn K mainGlobals "least_wheel" = some (some (.ref f_least_wheel)))
    (l_least_wheel : K.lookup f_least_wheel = some ⟨oc_least_wheel, od_least_wheel, .func (PySem.W.fnOf "least_wheel" "least_wheel" (defArgs s_least_wheel) (defBody s_least_wheel) (defScope s_least_wheel) .none kV_least_wheel dc_least_wheel pm_least_wheel an_least_wheel cd_least_wheel ct_least_wheel), sl_least_wheel⟩)
    (c_least_wheel : PySem.W.codeIn K cd_least_wheel "least_wheel" = true)
    (k_least_wheel : PySem.W.keepIn K (.ref f_least_wheel) = true)
    {f_same_wheels : Addr} {od_same_wheels an_same_wheels : Option Addr} {sl_same_wheels : Array (Option Value)} {oc_same_wheels kV_same_wheels dc_same_wheels pm_same_wheels cd_same_wheels ct_same_wheels : Value}
    (a_same_wheels : PySem.W.nsIn K mainGlobals "same_wheels" = some (some (.ref f_same_wheels)))
    (l_same_wheels : K.lookup f_same_wheels = some ⟨oc_same_wheels, od_same_wheels, .func (PySem.W.fnOf "same_wheels" "same_wheels" (defArgs s_same_wheels) (defBody s_same_wheels) (defScope s_same_wheels) .none kV_same_wheels dc_same_wheels pm_same_wheels an_same_wheels cd_same_wheels ct_same_wheels), sl_same_wheels⟩)
    (c_same_wheels : PySem.W.codeIn K cd_same_wheels "same_wheels" = true)
    (k_same_wheels : PySem.W.keepIn K (.ref f_same_wheels) = true)
    {f_moved_wheel : Addr} {od_moved_wheel an_moved_wheel : Option Addr} {sl_moved_wheel : Array (Option Value)} {oc_moved_wheel kV_moved_wheel dc_moved_wheel pm_moved_wheel cd_moved_wheel ct_moved_wheel : Value}
    (a_moved_wheel : PySem.W.nsIn K mainGlobals "moved_wheel" = some (some (.ref f_moved_wheel)))
    (l_moved_wheel : K.lookup f_moved_wheel = some ⟨oc_moved_wheel, od_moved_wheel, .func (PySem.W.fnOf "moved_wheel" "moved_wheel" (defArgs s_moved_wheel) (defBody s_moved_wheel) (defScope s_moved_wheel) .none kV_moved_wheel dc_moved_wheel pm_moved_wheel an_moved_wheel cd_moved_wheel ct_moved_wheel), sl_moved_wheel⟩)
    (c_moved_wheel : PySem.W.codeIn K cd_moved_wheel "moved_wheel" = true)
    (k_moved_wheel : PySem.W.keepIn K (.ref f_moved_wheel) = true)
    {f_mirrored_wheel : Addr} {od_mirrored_wheel an_mirrored_wheel : Option Addr} {sl_mirrored_wheel : Array (Option Value)} {oc_mirrored_wheel kV_mirrored_wheel dc_mirrored_wheel pm_mirrored_wheel cd_mirrored_wheel ct_mirrored_wheel : Value}
    (a_mirrored_wheel : PySem.W.nsIn K mainGlobals "mirrored_wheel" = some (some (.ref f_mirrored_wheel)))
    (l_mirrored_wheel : K.lookup f_mirrored_wheel = some ⟨oc_mirrored_wheel, od_mirrored_wheel, .func (PySem.W.fnOf "mirrored_wheel" "mirrored_wheel" (defArgs s_mirrored_wheel) (defBody s_mirrored_wheel) (defScope s_mirrored_wheel) .none kV_mirrored_wheel dc_mirrored_wheel pm_mirrored_wheel an_mirrored_wheel cd_mirrored_wheel ct_mirrored_wheel), sl_mirrored_wheel⟩)
    (c_mirrored_wheel : PySem.W.codeIn K cd_mirrored_wheel "mirrored_wheel" = true)
    (k_mirrored_wheel : PySem.W.keepIn K (.ref f_mirrored_wheel) = true)
    {f_l_cell : Addr} {od_l_cell an_l_cell : Option Addr} {sl_l_cell : Array (Option Value)} {oc_l_cell kV_l_cell dc_l_cell pm_l_cell cd_l_cell ct_l_cell : Value}
    (a_l_cell : PySem.W.nsIn K mainGlobals "_law_cell" = some (some (.ref f_l_cell)))
    (l_l_cell : K.lookup f_l_cell = some ⟨oc_l_cell, od_l_cell, .func (PySem.W.fnOf "_law_cell" "_law_cell" (defArgs s_l_cell) (defBody s_l_cell) (defScope s_l_cell) .none kV_l_cell dc_l_cell pm_l_cell an_l_cell cd_l_cell ct_l_cell), sl_l_cell⟩)
    (c_l_cell : PySem.W.codeIn K cd_l_cell "_law_cell" = true)
    (k_l_cell : PySem.W.keepIn K (.ref f_l_cell) = true)
    {f_l_value : Addr} {od_l_value an_l_value : Option Addr} {sl_l_value : Array (Option Value)} {oc_l_value kV_l_value dc_l_value pm_l_value cd_l_value ct_l_value : Value}
    (a_l_value : PySem.W.nsIn K mainGlobals "_law_value" = some (some (.ref f_l_value)))
    (l_l_value : K.lookup f_l_value = some ⟨oc_l_value, od_l_value, .func (PySem.W.fnOf "_law_value" "_law_value" (defArgs s_l_value) (defBody s_l_value) (defScope s_l_value) .none kV_l_value dc_l_value pm_l_value an_l_value cd_l_value ct_l_value), sl_l_value⟩)
    (c_l_value : PySem.W.codeIn K cd_l_value "_law_value" = true)
    (k_l_value : PySem.W.keepIn K (.ref f_l_value) = true)
    {f_l_place : Addr} {od_l_place an_l_place : Option Addr} {sl_l_place : Array (Option Value)} {oc_l_place kV_l_place dc_l_place pm_l_place cd_l_place ct_l_place : Value}
    (a_l_place : PySem.W.nsIn K mainGlobals "_law_place" = some (some (.ref f_l_place)))
    (l_l_place : K.lookup f_l_place = some ⟨oc_l_place, od_l_place, .func (PySem.W.fnOf "_law_place" "_law_place" (defArgs s_l_place) (defBody s_l_place) (defScope s_l_place) .none kV_l_place dc_l_place pm_l_place an_l_place cd_l_place ct_l_place), sl_l_place⟩)
    (c_l_place : PySem.W.codeIn K cd_l_place "_law_place" = true)
    (k_l_place : PySem.W.keepIn K (.ref f_l_place) = true)
    {f_l_ring : Addr} {od_l_ring an_l_ring : Option Addr} {sl_l_ring : Array (Option Value)} {oc_l_ring kV_l_ring dc_l_ring pm_l_ring cd_l_ring ct_l_ring : Value}
    (a_l_ring : PySem.W.nsIn K mainGlobals "_law_ring" = some (some (.ref f_l_ring)))
    (l_l_ring : K.lookup f_l_ring = some ⟨oc_l_ring, od_l_ring, .func (PySem.W.fnOf "_law_ring" "_law_ring" (defArgs s_l_ring) (defBody s_l_ring) (defScope s_l_ring) .none kV_l_ring dc_l_ring pm_l_ring an_l_ring cd_l_ring ct_l_ring), sl_l_ring⟩)
    (c_l_ring : PySem.W.codeIn K cd_l_ring "_law_ring" = true)
    (k_l_ring : PySem.W.keepIn K (.ref f_l_ring) = true)
    {f_l_least : Addr} {od_l_least an_l_least : Option Addr} {sl_l_least : Array (Option Value)} {oc_l_least kV_l_least dc_l_least pm_l_least cd_l_least ct_l_least : Value}
    (a_l_least : PySem.W.nsIn K mainGlobals "_law_least" = some (some (.ref f_l_least)))
    (l_l_least : K.lookup f_l_least = some ⟨oc_l_least, od_l_least, .func (PySem.W.fnOf "_law_least" "_law_least" (defArgs s_l_least) (defBody s_l_least) (defScope s_l_least) .none kV_l_least dc_l_least pm_l_least an_l_least cd_l_least ct_l_least), sl_l_least⟩)
    (c_l_least : PySem.W.codeIn K cd_l_least "_law_least" = true)
    (k_l_least : PySem.W.keepIn K (.ref f_l_least) = true)
    {f_l_round : Addr} {od_l_round an_l_round : Option Addr} {sl_l_round : Array (Option Value)} {oc_l_round kV_l_round dc_l_round pm_l_round cd_l_round ct_l_round : Value}
    (a_l_round : PySem.W.nsIn K mainGlobals "_law_round" = some (some (.ref f_l_round)))
    (l_l_round : K.lookup f_l_round = some ⟨oc_l_round, od_l_round, .func (PySem.W.fnOf "_law_round" "_law_round" (defArgs s_l_round) (defBody s_l_round) (defScope s_l_round) .none kV_l_round dc_l_round pm_l_round an_l_round cd_l_round ct_l_round), sl_l_round⟩)
    (c_l_round : PySem.W.codeIn K cd_l_round "_law_round" = true)
    (k_l_round : PySem.W.keepIn K (.ref f_l_round) = true)
    {f_l_alike : Addr} {od_l_alike an_l_alike : Option Addr} {sl_l_alike : Array (Option Value)} {oc_l_alike kV_l_alike dc_l_alike pm_l_alike cd_l_alike ct_l_alike : Value}
    (a_l_alike : PySem.W.nsIn K mainGlobals "_law_alike" = some (some (.ref f_l_alike)))
    (l_l_alike : K.lookup f_l_alike = some ⟨oc_l_alike, od_l_alike, .func (PySem.W.fnOf "_law_alike" "_law_alike" (defArgs s_l_alike) (defBody s_l_alike) (defScope s_l_alike) .none kV_l_alike dc_l_alike pm_l_alike an_l_alike cd_l_alike ct_l_alike), sl_l_alike⟩)
    (c_l_alike : PySem.W.codeIn K cd_l_alike "_law_alike" = true)
    (k_l_alike : PySem.W.keepIn K (.ref f_l_alike) = true)
    {f_l_refusal : Addr} {od_l_refusal an_l_refusal : Option Addr} {sl_l_refusal : Array (Option Value)} {oc_l_refusal kV_l_refusal dc_l_refusal pm_l_refusal cd_l_refusal ct_l_refusal : Value}
    (a_l_refusal : PySem.W.nsIn K mainGlobals "_law_refusal" = some (some (.ref f_l_refusal)))
    (l_l_refusal : K.lookup f_l_refusal = some ⟨oc_l_refusal, od_l_refusal, .func (PySem.W.fnOf "_law_refusal" "_law_refusal" (defArgs s_l_refusal) (defBody s_l_refusal) (defScope s_l_refusal) .none kV_l_refusal dc_l_refusal pm_l_refusal an_l_refusal cd_l_refusal ct_l_refusal), sl_l_refusal⟩)
    (c_l_refusal : PySem.W.codeIn K cd_l_refusal "_law_refusal" = true)
    (k_l_refusal : PySem.W.keepIn K (.ref f_l_refusal) = true)
    {f_l_refused : Addr} {od_l_refused an_l_refused : Option Addr} {sl_l_refused : Array (Option Value)} {oc_l_refused kV_l_refused dc_l_refused pm_l_refused cd_l_refused ct_l_refused : Value}
    (a_l_refused : PySem.W.nsIn K mainGlobals "_law_refused" = some (some (.ref f_l_refused)))
    (l_l_refused : K.lookup f_l_refused = some ⟨oc_l_refused, od_l_refused, .func (PySem.W.fnOf "_law_refused" "_law_refused" (defArgs s_l_refused) (defBody s_l_refused) (defScope s_l_refused) .none kV_l_refused dc_l_refused pm_l_refused an_l_refused cd_l_refused ct_l_refused), sl_l_refused⟩)
    (c_l_refused : PySem.W.codeIn K cd_l_refused "_law_refused" = true)
    (k_l_refused : PySem.W.keepIn K (.ref f_l_refused) = true)
    {f_l_same_right : Addr} {od_l_same_right an_l_same_right : Option Addr} {sl_l_same_right : Array (Option Value)} {oc_l_same_right kV_l_same_right dc_l_same_right pm_l_same_right cd_l_same_right ct_l_same_right : Value}
    (a_l_same_right : PySem.W.nsIn K mainGlobals "_law_same_right" = some (some (.ref f_l_same_right)))
    (l_l_same_right : K.lookup f_l_same_right = some ⟨oc_l_same_right, od_l_same_right, .func (PySem.W.fnOf "_law_same_right" "_law_same_right" (defArgs s_l_same_right) (defBody s_l_same_right) (defScope s_l_same_right) .none kV_l_same_right dc_l_same_right pm_l_same_right an_l_same_right cd_l_same_right ct_l_same_right), sl_l_same_right⟩)
    (c_l_same_right : PySem.W.codeIn K cd_l_same_right "_law_same_right" = true)
    (k_l_same_right : PySem.W.keepIn K (.ref f_l_same_right) = true)
    {f_l_great_right : Addr} {od_l_great_right an_l_great_right : Option Addr} {sl_l_great_right : Array (Option Value)} {oc_l_great_right kV_l_great_right dc_l_great_right pm_l_great_right cd_l_great_right ct_l_great_right : Value}
    (a_l_great_right : PySem.W.nsIn K mainGlobals "_law_great_right" = some (some (.ref f_l_great_right)))
    (l_l_great_right : K.lookup f_l_great_right = some ⟨oc_l_great_right, od_l_great_right, .func (PySem.W.fnOf "_law_great_right" "_law_great_right" (defArgs s_l_great_right) (defBody s_l_great_right) (defScope s_l_great_right) .none kV_l_great_right dc_l_great_right pm_l_great_right an_l_great_right cd_l_great_right ct_l_great_right), sl_l_great_right⟩)
    (c_l_great_right : PySem.W.codeIn K cd_l_great_right "_law_great_right" = true)
    (k_l_great_right : PySem.W.keepIn K (.ref f_l_great_right) = true)
    {f_law : Addr} {od_law an_law : Option Addr} {sl_law : Array (Option Value)} {oc_law kV_law dc_law pm_law cd_law ct_law : Value}
    (a_law : PySem.W.nsIn K mainGlobals "law" = some (some (.ref f_law)))
    (l_law : K.lookup f_law = some ⟨oc_law, od_law, .func (PySem.W.fnOf "law" "law" (defArgs s_law) (defBody s_law) (defScope s_law) .none kV_law dc_law pm_law an_law cd_law ct_law), sl_law⟩)
    (c_law : PySem.W.codeIn K cd_law "law" = true)
    (k_law : PySem.W.keepIn K (.ref f_law) = true)
    (z_ValueError : PySem.W.nsIn K mainGlobals "ValueError" = some none)
    (z_all : PySem.W.nsIn K mainGlobals "all" = some none)
    (z_bool : PySem.W.nsIn K mainGlobals "bool" = some none)
    (z_int : PySem.W.nsIn K mainGlobals "int" = some none)
    (z_isinstance : PySem.W.nsIn K mainGlobals "isinstance" = some none)
    (z_len : PySem.W.nsIn K mainGlobals "len" = some none)
    (z_list : PySem.W.nsIn K mainGlobals "list" = some none)
    (z_max : PySem.W.nsIn K mainGlobals "max" = some none)
    (z_min : PySem.W.nsIn K mainGlobals "min" = some none)
    (z_range : PySem.W.nsIn K mainGlobals "range" = some none)
    (z_tuple : PySem.W.nsIn K mainGlobals "tuple" = some none)
    {tk_MOST_VALUES : Tok}
    (z_MOST_VALUES : PySem.W.nsIn K mainGlobals "MOST_VALUES" = some (some (.int 4000 tk_MOST_VALUES)))
    (gcn : PySem.W.specialIn K (.builtin "object.__class__") "__get__" = some (some (.builtin "getset_descriptor.__get__")))
    (gct : PySem.W.takesIn K (.builtin "object.__class__") = some true)
    (xi_NoPlace : PySem.W.excIn K c_NoPlace [.type "ValueError", .type "Exception", .type "BaseException", .type "object"] "ValueError.__new__" = true)
    (kp_NoPlace : PySem.W.keepIn K (.ref c_NoPlace) = true)
    (xb_NoPlace : PySem.W.subIn K (.ref c_NoPlace) (.type "BaseException") = some true)
    (ty_NoPlace : PySem.W.typeIn K (.ref c_NoPlace) = some (.type "type"))
    (xi_NoWheel : PySem.W.excIn K c_NoWheel [.type "ValueError", .type "Exception", .type "BaseException", .type "object"] "ValueError.__new__" = true)
    (kp_NoWheel : PySem.W.keepIn K (.ref c_NoWheel) = true)
    (xb_NoWheel : PySem.W.subIn K (.ref c_NoWheel) (.type "BaseException") = some true)
    (ty_NoWheel : PySem.W.typeIn K (.ref c_NoWheel) = some (.type "type"))
    (eg_NoPlace : PySem.W.findIn K (.ref c_NoPlace) "__getattribute__" = some (some (.builtin "BaseException.__getattribute__")))
    (ek_NoPlace : PySem.W.findIn K (.ref c_NoPlace) "__getattr__" = some none)
    (hd_NoPlace : PySem.W.hasDictIn K c_NoPlace = true)
    (ec_NoPlace : PySem.W.findIn K (.ref c_NoPlace) "__class__" = some (some (.builtin "object.__class__")))
    (em_NoPlace : PySem.W.mroIn K c_NoPlace (.type "object") = some true)
    (xb_FarError : PySem.W.subIn K (.ref c_FarError) (.type "BaseException") = some true)
    (hd_FarError : PySem.W.hasDictIn K c_FarError = true)
    (ty_FarError : PySem.W.typeIn K (.ref c_FarError) = some (.type "type"))
    (sb_NoPlace_FarError : PySem.W.subIn K (.ref c_NoPlace) (.ref c_FarError) = some true)
    (ic_NoSpan : PySem.W.isClsIn K c_NoSpan = true)
    (ty_NoSpan : PySem.W.typeIn K (.ref c_NoSpan) = some (.type "type"))
    (sb_NoSpan_NoSpan : PySem.W.subIn K (.ref c_NoSpan) (.ref c_NoSpan) = some true)
    (sb_NoPlace_NoSpan : PySem.W.subIn K (.ref c_NoPlace) (.ref c_NoSpan) = some false)
    (ic_NoValue : PySem.W.isClsIn K c_NoValue = true)
    (ty_NoValue : PySem.W.typeIn K (.ref c_NoValue) = some (.type "type"))
    (sb_NoValue_NoValue : PySem.W.subIn K (.ref c_NoValue) (.ref c_NoValue) = some true)
    (sb_NoPlace_NoValue : PySem.W.subIn K (.ref c_NoPlace) (.ref c_NoValue) = some false)
    (ic_NoPlace : PySem.W.isClsIn K c_NoPlace = true)
    (sb_NoPlace_NoPlace : PySem.W.subIn K (.ref c_NoPlace) (.ref c_NoPlace) = some true)
    (ic_NoCount : PySem.W.isClsIn K c_NoCount = true)
    (ty_NoCount : PySem.W.typeIn K (.ref c_NoCount) = some (.type "type"))
    (sb_NoCount_NoCount : PySem.W.subIn K (.ref c_NoCount) (.ref c_NoCount) = some true)
    (sb_NoPlace_NoCount : PySem.W.subIn K (.ref c_NoPlace) (.ref c_NoCount) = some false)
    (ic_NoWheel : PySem.W.isClsIn K c_NoWheel = true)
    (sb_NoWheel_NoWheel : PySem.W.subIn K (.ref c_NoWheel) (.ref c_NoWheel) = some true)
    (sb_NoPlace_NoWheel : PySem.W.subIn K (.ref c_NoPlace) (.ref c_NoWheel) = some false)
    (ic_NoRow : PySem.W.isClsIn K c_NoRow = true)
    (ty_NoRow : PySem.W.typeIn K (.ref c_NoRow) = some (.type "type"))
    (sb_NoRow_NoRow : PySem.W.subIn K (.ref c_NoRow) (.ref c_NoRow) = some true)
    (sb_NoPlace_NoRow : PySem.W.subIn K (.ref c_NoPlace) (.ref c_NoRow) = some false)
    (ic_NoText : PySem.W.isClsIn K c_NoText = true)
    (ty_NoText : PySem.W.typeIn K (.ref c_NoText) = some (.type "type"))
    (sb_NoText_NoText : PySem.W.subIn K (.ref c_NoText) (.ref c_NoText) = some true)
    (sb_NoPlace_NoText : PySem.W.subIn K (.ref c_NoPlace) (.ref c_NoText) = some false)
    (ic_TooMany : PySem.W.isClsIn K c_TooMany = true)
    (ty_TooMany : PySem.W.typeIn K (.ref c_TooMany) = some (.type "type"))
    (sb_TooMany_TooMany : PySem.W.subIn K (.ref c_TooMany) (.ref c_TooMany) = some true)
    (sb_NoPlace_TooMany : PySem.W.subIn K (.ref c_NoPlace) (.ref c_TooMany) = some false)
    (sv_NoPlace_ValueError : PySem.W.subIn K (.ref c_NoPlace) (.type "ValueError") = some true)
    (eg_NoWheel : PySem.W.findIn K (.ref c_NoWheel) "__getattribute__" = some (some (.builtin "BaseException.__getattribute__")))
    (ek_NoWheel : PySem.W.findIn K (.ref c_NoWheel) "__getattr__" = some none)
    (hd_NoWheel : PySem.W.hasDictIn K c_NoWheel = true)
    (ec_NoWheel : PySem.W.findIn K (.ref c_NoWheel) "__class__" = some (some (.builtin "object.__class__")))
    (em_NoWheel : PySem.W.mroIn K c_NoWheel (.type "object") = some true)
    (sb_NoWheel_FarError : PySem.W.subIn K (.ref c_NoWheel) (.ref c_FarError) = some true)
    (sb_NoWheel_NoSpan : PySem.W.subIn K (.ref c_NoWheel) (.ref c_NoSpan) = some false)
    (sb_NoWheel_NoValue : PySem.W.subIn K (.ref c_NoWheel) (.ref c_NoValue) = some false)
    (sb_NoWheel_NoPlace : PySem.W.subIn K (.ref c_NoWheel) (.ref c_NoPlace) = some false)
    (sb_NoWheel_NoCount : PySem.W.subIn K (.ref c_NoWheel) (.ref c_NoCount) = some false)
    (sb_NoWheel_NoRow : PySem.W.subIn K (.ref c_NoWheel) (.ref c_NoRow) = some false)
    (sb_NoWheel_NoText : PySem.W.subIn K (.ref c_NoWheel) (.ref c_NoText) = some false)
    (sb_NoWheel_TooMany : PySem.W.subIn K (.ref c_NoWheel) (.ref c_TooMany) = some false)
    (sv_NoWheel_ValueError : PySem.W.subIn K (.ref c_NoWheel) (.type "ValueError") = some true)
    (pg_Wheel : PySem.W.plainGet K c_Wheel Str.empty = true)
    (hd_Wheel : PySem.W.hasDictIn K c_Wheel = true)
    (po_Wheel : PySem.W.plainOver K c_Wheel = true)
    (sa_Wheel : PySem.W.findIn K (.ref c_Wheel) "__setattr__" = some (some (.builtin "object.__setattr__")))
    (ec_Wheel : PySem.W.findIn K (.ref c_Wheel) "__class__" = some (some (.builtin "object.__class__")))
    (em_Wheel : PySem.W.mroIn K c_Wheel (.type "object") = some true)
    (na_Wheel_ring : PySem.W.findIn K (.ref c_Wheel) "ring" = some none)
    (mk_Wheel : PySem.W.makesIn K c_Wheel = true)
    (kp_Wheel : PySem.W.keepIn K (.ref c_Wheel) = true)
    : ∃ fd : FuncData, (∀ (s : Shared) (v : Value), BindsTo s fd ⟨[v], []⟩ [("_law_script", v)]) ∧ ∀ base : Heap, K.In base → base.Ns mainGlobals mg → FnOk l.prog w K mg base CX0 9 fa fd ["_law_script"] (spD K R_law) := by
  have e := hfa.symm.trans (PySem.W.mg_of X G a_law)
  cases e
  let T : Txt K mg ⟨c_FarError, c_NoSpan, c_NoValue, c_NoPlace, c_NoCount, c_NoWheel, c_NoRow, c_TooMany, c_NoText, c_Wheel⟩ := {
    a_is_place := _, d_is_place := _, F_is_place := fun_mk (st := s_is_place) l_is_place c_is_place k_is_place, b_is_place := (fun_mk (st := s_is_place) l_is_place c_is_place k_is_place).binds (fun _ _ _ _ _ _ us hl => match us, hl with | [_], _ => rfl), g_is_place := PySem.W.mg_of X G a_is_place,
    a_is_value := _, d_is_value := _, F_is_value := fun_mk (st := s_is_value) l_is_value c_is_value k_is_value, b_is_value := (fun_mk (st := s_is_value) l_is_value c_is_value k_is_value).binds (fun _ _ _ _ _ _ us hl => match us, hl with | [_], _ => rfl), g_is_value := PySem.W.mg_of X G a_is_value,
    a_are_values := _, d_are_values := _, F_are_values := fun_mk (st := s_are_values) l_are_values c_are_values k_are_values, b_are_values := (fun_mk (st := s_are_values) l_are_values c_are_values k_are_values).binds (fun _ _ _ _ _ _ us hl => match us, hl with | [_, _], _ => rfl), g_are_values := PySem.W.mg_of X G a_are_values,
    a_Wheel_init := _, d_Wheel_init := _, F_Wheel_init := fun_mk (st := s_Wheel_init) l_Wheel_init c_Wheel_init k_Wheel_init, b_Wheel_init := (fun_mk (st := s_Wheel_init) l_Wheel_init c_Wheel_init k_Wheel_init).binds (fun _ _ _ _ _ _ us hl => match us, hl with | [_, _], _ => rfl),
    a_need_place := _, d_need_place := _, F_need_place := fun_mk (st := s_need_place) l_need_place c_need_place k_need_place, b_need_place := (fun_mk (st := s_need_place) l_need_place c_need_place k_need_place).binds (fun _ _ _ _ _ _ us hl => match us, hl with | [_], _ => rfl), g_need_place := PySem.W.mg_of X G a_need_place,
    a_Wheel_tells := _, d_Wheel_tells := _, F_Wheel_tells := fun_mk (st := s_Wheel_tells) l_Wheel_tells c_Wheel_tells k_Wheel_tells, b_Wheel_tells := (fun_mk (st := s_Wheel_tells) l_Wheel_tells c_Wheel_tells k_Wheel_tells).binds (fun _ _ _ _ _ _ us hl => match us, hl with | [_, _], _ => rfl),
    a_least_round := _, d_least_round := _, F_least_round := fun_mk (st := s_least_round) l_least_round c_least_round k_least_round, b_least_round := (fun_mk (st := s_least_round) l_least_round c_least_round k_least_round).binds (fun _ _ _ _ _ _ us hl => match us, hl with | [_], _ => rfl), g_least_round := PySem.W.mg_of X G a_least_round,
    a_least_wheel := _, d_least_wheel := _, F_least_wheel := fun_mk (st := s_least_wheel) l_least_wheel c_least_wheel k_least_wheel, b_least_wheel := (fun_mk (st := s_least_wheel) l_least_wheel c_least_wheel k_least_wheel).binds (fun _ _ _ _ _ _ us hl => match us, hl with | [_], _ => rfl), g_least_wheel := PySem.W.mg_of X G a_least_wheel,
    a_same_wheels := _, d_same_wheels := _, F_same_wheels := fun_mk (st := s_same_wheels) l_same_wheels c_same_wheels k_same_wheels, b_same_wheels := (fun_mk (st := s_same_wheels) l_same_wheels c_same_wheels k_same_wheels).binds (fun _ _ _ _ _ _ us hl => match us, hl with | [_, _], _ => rfl), g_same_wheels := PySem.W.mg_of X G a_same_wheels,
    a_moved_wheel := _, d_moved_wheel := _, F_moved_wheel := fun_mk (st := s_moved_wheel) l_moved_wheel c_moved_wheel k_moved_wheel, b_moved_wheel := (fun_mk (st := s_moved_wheel) l_moved_wheel c_moved_wheel k_moved_wheel).binds (fun _ _ _ _ _ _ us hl => match us, hl with | [_, _], _ => rfl), g_moved_wheel := PySem.W.mg_of X G a_moved_wheel,
    a_mirrored_wheel := _, d_mirrored_wheel := _, F_mirrored_wheel := fun_mk (st := s_mirrored_wheel) l_mirrored_wheel c_mirrored_wheel k_mirrored_wheel, b_mirrored_wheel := (fun_mk (st := s_mirrored_wheel) l_mirrored_wheel c_mirrored_wheel k_mirrored_wheel).binds (fun _ _ _ _ _ _ us hl => match us, hl with | [_, _], _ => rfl), g_mirrored_wheel := PySem.W.mg_of X G a_mirrored_wheel,
    a_l_cell := _, d_l_cell := _, F_l_cell := fun_mk (st := s_l_cell) l_l_cell c_l_cell k_l_cell, b_l_cell := (fun_mk (st := s_l_cell) l_l_cell c_l_cell k_l_cell).binds (fun _ _ _ _ _ _ us hl => match us, hl with | [_, _], _ => rfl), g_l_cell := PySem.W.mg_of X G a_l_cell,
    a_l_value := _, d_l_value := _, F_l_value := fun_mk (st := s_l_value) l_l_value c_l_value k_l_value, b_l_value := (fun_mk (st := s_l_value) l_l_value c_l_value k_l_value).binds (fun _ _ _ _ _ _ us hl => match us, hl with | [_], _ => rfl), g_l_value := PySem.W.mg_of X G a_l_value,
    a_l_place := _, d_l_place := _, F_l_place := fun_mk (st := s_l_place) l_l_place c_l_place k_l_place, b_l_place := (fun_mk (st := s_l_place) l_l_place c_l_place k_l_place).binds (fun _ _ _ _ _ _ us hl => match us, hl with | [_], _ => rfl), g_l_place := PySem.W.mg_of X G a_l_place,
    a_l_ring := _, d_l_ring := _, F_l_ring := fun_mk (st := s_l_ring) l_l_ring c_l_ring k_l_ring, b_l_ring := (fun_mk (st := s_l_ring) l_l_ring c_l_ring k_l_ring).binds (fun _ _ _ _ _ _ us hl => match us, hl with | [_, _], _ => rfl), g_l_ring := PySem.W.mg_of X G a_l_ring,
    a_l_least := _, d_l_least := _, F_l_least := fun_mk (st := s_l_least) l_l_least c_l_least k_l_least, b_l_least := (fun_mk (st := s_l_least) l_l_least c_l_least k_l_least).binds (fun _ _ _ _ _ _ us hl => match us, hl with | [_], _ => rfl), g_l_least := PySem.W.mg_of X G a_l_least,
    a_l_round := _, d_l_round := _, F_l_round := fun_mk (st := s_l_round) l_l_round c_l_round k_l_round, b_l_round := (fun_mk (st := s_l_round) l_l_round c_l_round k_l_round).binds (fun _ _ _ _ _ _ us hl => match us, hl with | [_, _], _ => rfl), g_l_round := PySem.W.mg_of X G a_l_round,
    a_l_alike := _, d_l_alike := _, F_l_alike := fun_mk (st := s_l_alike) l_l_alike c_l_alike k_l_alike, b_l_alike := (fun_mk (st := s_l_alike) l_l_alike c_l_alike k_l_alike).binds (fun _ _ _ _ _ _ us hl => match us, hl with | [_, _], _ => rfl), g_l_alike := PySem.W.mg_of X G a_l_alike,
    a_l_refusal := _, d_l_refusal := _, F_l_refusal := fun_mk (st := s_l_refusal) l_l_refusal c_l_refusal k_l_refusal, b_l_refusal := (fun_mk (st := s_l_refusal) l_l_refusal c_l_refusal k_l_refusal).binds (fun _ _ _ _ _ _ us hl => match us, hl with | [_], _ => rfl), g_l_refusal := PySem.W.mg_of X G a_l_refusal,
    a_l_refused := _, d_l_refused := _, F_l_refused := fun_mk (st := s_l_refused) l_l_refused c_l_refused k_l_refused, b_l_refused := (fun_mk (st := s_l_refused) l_l_refused c_l_refused k_l_refused).binds (fun _ _ _ _ _ _ us hl => match us, hl with | [_, _, _], _ => rfl), g_l_refused := PySem.W.mg_of X G a_l_refused,
    a_l_same_right := _, d_l_same_right := _, F_l_same_right := fun_mk (st := s_l_same_right) l_l_same_right c_l_same_right k_l_same_right, b_l_same_right := (fun_mk (st := s_l_same_right) l_l_same_right c_l_same_right k_l_same_right).binds (fun _ _ _ _ _ _ us hl => match us, hl with | [_, _], _ => rfl), g_l_same_right := PySem.W.mg_of X G a_l_same_right,
    a_l_great_right := _, d_l_great_right := _, F_l_great_right := fun_mk (st := s_l_great_right) l_l_great_right c_l_great_right k_l_great_right, b_l_great_right := (fun_mk (st := s_l_great_right) l_l_great_right c_l_great_right k_l_great_right).binds (fun _ _ _ _ _ _ us hl => match us, hl with | [_], _ => rfl), g_l_great_right := PySem.W.mg_of X G a_l_great_right,
    a_law := _, d_law := _, F_law := fun_mk (st := s_law) l_law c_law k_law, b_law := (fun_mk (st := s_law) l_law c_law k_law).binds (fun _ _ _ _ _ _ us hl => match us, hl with | [_], _ => rfl), g_law := PySem.W.mg_of X G a_law,
    n_ValueError := PySem.W.mg_none_of X G z_ValueError,
    n_all := PySem.W.mg_none_of X G z_all,
    n_bool := PySem.W.mg_none_of X G z_bool,
    n_int := PySem.W.mg_none_of X G z_int,
    n_isinstance := PySem.W.mg_none_of X G z_isinstance,
    n_len := PySem.W.mg_none_of X G z_len,
    n_list := PySem.W.mg_none_of X G z_list,
    n_max := PySem.W.mg_none_of X G z_max,
    n_min := PySem.W.mg_none_of X G z_min,
    n_range := PySem.W.mg_none_of X G z_range,
    n_tuple := PySem.W.mg_none_of X G z_tuple,
    t_MOST_VALUES := _, g_MOST_VALUES := PySem.W.mg_of X G z_MOST_VALUES,
    g_FarError := PySem.W.mg_of X G ga_FarError,
    g_NoSpan := PySem.W.mg_of X G ga_NoSpan,
    g_NoValue := PySem.W.mg_of X G ga_NoValue,
    g_NoPlace := PySem.W.mg_of X G ga_NoPlace,
    g_NoCount := PySem.W.mg_of X G ga_NoCount,
    g_NoWheel := PySem.W.mg_of X G ga_NoWheel,
    g_NoRow := PySem.W.mg_of X G ga_NoRow,
    g_TooMany := PySem.W.mg_of X G ga_TooMany,
    g_NoText := PySem.W.mg_of X G ga_NoText,
    g_Wheel := PySem.W.mg_of X G ga_Wheel,
    xi_NoPlace := xi_NoPlace, kp_NoPlace := kp_NoPlace, xb_NoPlace := xb_NoPlace, ty_NoPlace := ty_NoPlace,
    xi_NoWheel := xi_NoWheel, kp_NoWheel := kp_NoWheel, xb_NoWheel := xb_NoWheel, ty_NoWheel := ty_NoWheel,
    mk_Wheel := ⟨mk_Wheel, a_Wheel_init, i_Wheel_init, kp_Wheel⟩,
    me_Wheel_tells := ⟨a_Wheel_tells, i_Wheel_tells, k_Wheel_tells⟩,
    zf := {exc_NoPlace := ⟨eg_NoPlace, ek_NoPlace, xb_NoPlace, hd_NoPlace, ec_NoPlace, gcn, gct, em_NoPlace⟩, exm_NoPlace_FarError := PySem.W.exm_ref xb_FarError hd_FarError ty_FarError sb_NoPlace_FarError, kit_NoPlace_NoSpan := kit_own ic_NoSpan ty_NoSpan sb_NoSpan_NoSpan sb_NoPlace_NoSpan, kit_NoPlace_NoValue := kit_own ic_NoValue ty_NoValue sb_NoValue_NoValue sb_NoPlace_NoValue, kit_NoPlace_NoPlace := kit_own ic_NoPlace ty_NoPlace sb_NoPlace_NoPlace sb_NoPlace_NoPlace, kit_NoPlace_NoCount := kit_own ic_NoCount ty_NoCount sb_NoCount_NoCount sb_NoPlace_NoCount, kit_NoPlace_NoWheel := kit_own ic_NoWheel ty_NoWheel sb_NoWheel_NoWheel sb_NoPlace_NoWheel, kit_NoPlace_NoRow := kit_own ic_NoRow ty_NoRow sb_NoRow_NoRow sb_NoPlace_NoRow, kit_NoPlace_NoText := kit_own ic_NoText ty_NoText sb_NoText_NoText sb_NoPlace_NoText, kit_NoPlace_TooMany := kit_own ic_TooMany ty_TooMany sb_TooMany_TooMany sb_NoPlace_TooMany, kit_NoPlace_ValueError := kit_ownT (by decide +kernel) (by rfl) sv_NoPlace_ValueError, exc_NoWheel := ⟨eg_NoWheel, ek_NoWheel, xb_NoWheel, hd_NoWheel, ec_NoWheel, gcn, gct, em_NoWheel⟩, exm_NoWheel_FarError := PySem.W.exm_ref xb_FarError hd_FarError ty_FarError sb_NoWheel_FarError, kit_NoWheel_NoSpan := kit_own ic_NoSpan ty_NoSpan sb_NoSpan_NoSpan sb_NoWheel_NoSpan, kit_NoWheel_NoValue := kit_own ic_NoValue ty_NoValue sb_NoValue_NoValue sb_NoWheel_NoValue, kit_NoWheel_NoPlace := kit_own ic_NoPlace ty_NoPlace sb_NoPlace_NoPlace sb_NoWheel_NoPlace, kit_NoWheel_NoCount := kit_own ic_NoCount ty_NoCount sb_NoCount_NoCount sb_NoWheel_NoCount, kit_NoWheel_NoWheel := kit_own ic_NoWheel ty_NoWheel sb_NoWheel_NoWheel sb_NoWheel_NoWheel, kit_NoWheel_NoRow := kit_own ic_NoRow ty_NoRow sb_NoRow_NoRow sb_NoWheel_NoRow, kit_NoWheel_NoText := kit_own ic_NoText ty_NoText sb_NoText_NoText sb_NoWheel_NoText, kit_NoWheel_TooMany := kit_own ic_TooMany ty_TooMany sb_TooMany_TooMany sb_NoWheel_TooMany, kit_NoWheel_ValueError := kit_ownT (by decide +kernel) (by rfl) sv_NoWheel_ValueError, ins_Wheel := ⟨⟨pg_Wheel, hd_Wheel, po_Wheel, sa_Wheel⟩, ec_Wheel, gcn, gct, em_Wheel⟩, na_Wheel_ring := na_Wheel_ring} }
  exact ⟨_, fun s v => .of_eq rfl, fun base _ _ => ok_law T⟩
theorem walk {l : PySem.W.OpenLaw} {q : Program} {loose : List Str} {XP : (Str → Option Value) → Heap → Prop} {YP : World → Heap → Prop} {d : DefRec} {K : Params → PySem.W.Frag} (hn : l.most = some 63) (hdf : d.params.defaults = [])
    (hY : ∀ (w : World) (h : Heap), YP w h → (K w.params).In h)
    (F : ∀ (w : World) (mg : Str → Option Value) (fa : Addr) (h : Heap), (K w.params).In h → h.Ns mainGlobals mg → mg d.name = some (.ref fa) →
      ∃ fd : FuncData, (∀ (s : Shared) (u : Value), BindsTo s fd ⟨[u], []⟩ [("_law_script", u)]) ∧ ∀ base : Heap, (K w.params).In base → base.Ns mainGlobals mg → FnOk l.prog w (K w.params) mg base CX0 9 fa fd ["_law_script"] (spD (K w.params) R_law)) :
    PySem.W.WalkO q loose XP YP l.row.toRowW d [] (fun f vs => PySem.call f vs) :=
  L2.walk_of (n := 63) (k := 9) (x := "_law_script") (CX := fun _ => CX0) (sp := fun w => spD (K w.params) R_law) hn (by decide) hdf ⟨rfl, by decide, by decide⟩ hY F (fun _ _ a ns hl _ hS => law_asks hl hS fun _ => rfl) fun _ _ _ _ _ z => z
end Far
open PySem PySem.W PyProof.Rows
set_option maxRecDepth 100000 in
set_option maxHeartbeats 0 in
theorem PySem.Challenge.cw_farrows_k22_least_and_turned_holds : PySem.Challenge.rw_farrows_k22_least_and_turned.Holds := by
  w_on; o_law; k_head; (case hw => w_witness2)
  k_fill
  refine Far.walk (l := PySem.Challenge.rw_farrows_k22_least_and_turned) rfl rfl (fun w h Y => PySem.W.kIn_of Y) ?F
  case F =>
    intro w mg fa h KX G hmg
    refine' Far.all_mk KX G hmg ?ga_FarError ?ga_NoSpan ?ga_NoValue ?ga_NoPlace ?ga_NoCount ?ga_NoWheel ?ga_NoRow ?ga_TooMany ?ga_NoText ?ga_Wheel ?a_is_place ?l_is_place ?c_is_place ?k_is_place ?a_is_value ?l_is_value ?c_is_value ?k_is_value ?a_are_values ?l_are_values ?c_are_values ?k_are_values ?a_Wheel_init ?i_Wheel_init ?l_Wheel_init ?c_Wheel_init ?k_Wheel_init ?a_need_place ?l_need_place ?c_need_place ?k_need_place ?a_Wheel_tells ?i_Wheel_tells ?l_Wheel_tells ?c_Wheel_tells ?k_Wheel_tells ?a_least_round ?l_least_round ?c_least_round ?k_least_round ?a_least_wheel ?l_least_wheel ?c_least_wheel ?k_least_wheel ?a_same_wheels ?l_same_wheels ?c_same_wheels ?k_same_wheels ?a_moved_wheel ?l_moved_wheel ?c_moved_wheel ?k_moved_wheel ?a_mirrored_wheel ?l_mirrored_wheel ?c_mirrored_wheel ?k_mirrored_wheel ?a_l_cell ?l_l_cell ?c_l_cell ?k_l_cell ?a_l_value ?l_l_value ?c_l_value ?k_l_value ?a_l_place ?l_l_place ?c_l_place ?k_l_place ?a_l_ring ?l_l_ring ?c_l_ring ?k_l_ring ?a_l_least ?l_l_least ?c_l_least ?k_l_least ?a_l_round ?l_l_round ?c_l_round ?k_l_round ?a_l_alike ?l_l_alike ?c_l_alike ?k_l_alike ?a_l_refusal ?l_l_refusal ?c_l_refusal ?k_l_refusal ?a_l_refused ?l_l_refused ?c_l_refused ?k_l_refused ?a_l_same_right ?l_l_same_right ?c_l_same_right ?k_l_same_right ?a_l_great_right ?l_l_great_right ?c_l_great_right ?k_l_great_right ?a_law ?l_law ?c_law ?k_law ?z_ValueError ?z_all ?z_bool ?z_int ?z_isinstance ?z_len ?z_list ?z_max ?z_min ?z_range ?z_tuple ?z_MOST_VALUES ?gcn ?gct ?xi_NoPlace ?kp_NoPlace ?xb_NoPlace ?ty_NoPlace ?xi_NoWheel ?kp_NoWheel ?xb_NoWheel ?ty_NoWheel ?eg_NoPlace ?ek_NoPlace ?hd_NoPlace ?ec_NoPlace ?em_NoPlace ?xb_FarError ?hd_FarError ?ty_FarError ?sb_NoPlace_FarError ?ic_NoSpan ?ty_NoSpan ?sb_NoSpan_NoSpan ?sb_NoPlace_NoSpan ?ic_NoValue ?ty_NoValue ?sb_NoValue_NoValue ?sb_NoPlace_NoValue ?ic_NoPlace ?sb_NoPlace_NoPlace ?ic_NoCount ?ty_NoCount ?sb_NoCount_NoCount ?sb_NoPlace_NoCount ?ic_NoWheel ?sb_NoWheel_NoWheel ?sb_NoPlace_NoWheel ?ic_NoRow ?ty_NoRow ?sb_NoRow_NoRow ?sb_NoPlace_NoRow ?ic_NoText ?ty_NoText ?sb_NoText_NoText ?sb_NoPlace_NoText ?ic_TooMany ?ty_TooMany ?sb_TooMany_TooMany ?sb_NoPlace_TooMany ?sv_NoPlace_ValueError ?eg_NoWheel ?ek_NoWheel ?hd_NoWheel ?ec_NoWheel ?em_NoWheel ?sb_NoWheel_FarError ?sb_NoWheel_NoSpan ?sb_NoWheel_NoValue ?sb_NoWheel_NoPlace ?sb_NoWheel_NoCount ?sb_NoWheel_NoRow ?sb_NoWheel_NoText ?sb_NoWheel_TooMany ?sv_NoWheel_ValueError ?pg_Wheel ?hd_Wheel ?po_Wheel ?sa_Wheel ?ec_Wheel ?em_Wheel ?na_Wheel_ring ?mk_Wheel ?kp_Wheel
    (case ga_FarError => k_is)
    (case ga_NoSpan => k_is)
    (case ga_NoValue => k_is)
    (case ga_NoPlace => k_is)
    (case ga_NoCount => k_is)
    (case ga_NoWheel => k_is)
    (case ga_NoRow => k_is)
    (case ga_TooMany => k_is)
    (case ga_NoText => k_is)
    (case ga_Wheel => k_is)
    (case a_is_place => k_is)
    (case l_is_place => k_is)
    (case c_is_place => k_is)
    (case k_is_place => k_is)
    (case a_is_value => k_is)
    (case l_is_value => k_is)
    (case c_is_value => k_is)
    (case k_is_value => k_is)
    (case a_are_values => k_is)
    (case l_are_values => k_is)
    (case c_are_values => k_is)
    (case k_are_values => k_is)
    (case a_Wheel_init => k_is)
    (case i_Wheel_init => k_is)
    (case l_Wheel_init => k_is)
    (case c_Wheel_init => k_is)
    (case k_Wheel_init => k_is)
    (case a_need_place => k_is)
    (case l_need_place => k_is)
    (case c_need_place => k_is)
    (case k_need_place => k_is)
    (case a_Wheel_tells => k_is)
    (case i_Wheel_tells => k_is)
    (case l_Wheel_tells => k_is)
    (case c_Wheel_tells => k_is)
    (case k_Wheel_tells => k_is)
    (case a_least_round => k_is)
    (case l_least_round => k_is)
    (case c_least_round => k_is)
    (case k_least_round => k_is)
    (case a_least_wheel => k_is)
    (case l_least_wheel => k_is)
    (case c_least_wheel => k_is)
    (case k_least_wheel => k_is)
    (case a_same_wheels => k_is)
    (case l_same_wheels => k_is)
    (case c_same_wheels => k_is)
    (case k_same_wheels => k_is)
    (case a_moved_wheel => k_is)
    (case l_moved_wheel => k_is)
    (case c_moved_wheel => k_is)
    (case k_moved_wheel => k_is)
    (case a_mirrored_wheel => k_is)
    (case l_mirrored_wheel => k_is)
    (case c_mirrored_wheel => k_is)
    (case k_mirrored_wheel => k_is)
    (case a_l_cell => k_is)
    (case l_l_cell => k_is)
    (case c_l_cell => k_is)
    (case k_l_cell => k_is)
    (case a_l_value => k_is)
    (case l_l_value => k_is)
    (case c_l_value => k_is)
    (case k_l_value => k_is)
    (case a_l_place => k_is)
    (case l_l_place => k_is)
    (case c_l_place => k_is)
    (case k_l_place => k_is)
    (case a_l_ring => k_is)
    (case l_l_ring => k_is)
    (case c_l_ring => k_is)
    (case k_l_ring => k_is)
    (case a_l_least => k_is)
    (case l_l_least => k_is)
    (case c_l_least => k_is)
    (case k_l_least => k_is)
    (case a_l_round => k_is)
    (case l_l_round => k_is)
    (case c_l_round => k_is)
    (case k_l_round => k_is)
    (case a_l_alike => k_is)
    (case l_l_alike => k_is)
    (case c_l_alike => k_is)
    (case k_l_alike => k_is)
    (case a_l_refusal => k_is)
    (case l_l_refusal => k_is)
    (case c_l_refusal => k_is)
    (case k_l_refusal => k_is)
    (case a_l_refused => k_is)
    (case l_l_refused => k_is)
    (case c_l_refused => k_is)
    (case k_l_refused => k_is)
    (case a_l_same_right => k_is)
    (case l_l_same_right => k_is)
    (case c_l_same_right => k_is)
    (case k_l_same_right => k_is)
    (case a_l_great_right => k_is)
    (case l_l_great_right => k_is)
    (case c_l_great_right => k_is)
    (case k_l_great_right => k_is)
    (case a_law => k_is)
    (case l_law => k_is)
    (case c_law => k_is)
    (case k_law => k_is)
    (case z_ValueError => k_is)
    (case z_all => k_is)
    (case z_bool => k_is)
    (case z_int => k_is)
    (case z_isinstance => k_is)
    (case z_len => k_is)
    (case z_list => k_is)
    (case z_max => k_is)
    (case z_min => k_is)
    (case z_range => k_is)
    (case z_tuple => k_is)
    (case z_MOST_VALUES => k_is)
    (case gcn => k_is)
    (case gct => k_is)
    (case xi_NoPlace => k_exc)
    (case kp_NoPlace => k_is)
    (case xb_NoPlace => k_is)
    (case ty_NoPlace => k_is)
    (case xi_NoWheel => k_exc)
    (case kp_NoWheel => k_is)
    (case xb_NoWheel => k_is)
    (case ty_NoWheel => k_is)
    (case eg_NoPlace => k_is)
    (case ek_NoPlace => k_is)
    (case hd_NoPlace => k_is)
    (case ec_NoPlace => k_is)
    (case em_NoPlace => k_is)
    (case xb_FarError => k_is)
    (case hd_FarError => k_is)
    (case ty_FarError => k_is)
    (case sb_NoPlace_FarError => k_is)
    (case ic_NoSpan => k_is)
    (case ty_NoSpan => k_is)
    (case sb_NoSpan_NoSpan => first | rfl | k_is)
    (case sb_NoPlace_NoSpan => k_is)
    (case ic_NoValue => k_is)
    (case ty_NoValue => k_is)
    (case sb_NoValue_NoValue => first | rfl | k_is)
    (case sb_NoPlace_NoValue => k_is)
    (case ic_NoPlace => k_is)
    (case sb_NoPlace_NoPlace => first | rfl | k_is)
    (case ic_NoCount => k_is)
    (case ty_NoCount => k_is)
    (case sb_NoCount_NoCount => first | rfl | k_is)
    (case sb_NoPlace_NoCount => k_is)
    (case ic_NoWheel => k_is)
    (case sb_NoWheel_NoWheel => first | rfl | k_is)
    (case sb_NoPlace_NoWheel => k_is)
    (case ic_NoRow => k_is)
    (case ty_NoRow => k_is)
    (case sb_NoRow_NoRow => first | rfl | k_is)
    (case sb_NoPlace_NoRow => k_is)
    (case ic_NoText => k_is)
    (case ty_NoText => k_is)
    (case sb_NoText_NoText => first | rfl | k_is)
    (case sb_NoPlace_NoText => k_is)
    (case ic_TooMany => k_is)
    (case ty_TooMany => k_is)
    (case sb_TooMany_TooMany => first | rfl | k_is)
    (case sb_NoPlace_TooMany => k_is)
    (case sv_NoPlace_ValueError => k_is)
    (case eg_NoWheel => k_is)
    (case ek_NoWheel => k_is)
    (case hd_NoWheel => k_is)
    (case ec_NoWheel => k_is)
    (case em_NoWheel => k_is)
    (case sb_NoWheel_FarError => k_is)
    (case sb_NoWheel_NoSpan => k_is)
    (case sb_NoWheel_NoValue => k_is)
    (case sb_NoWheel_NoPlace => k_is)
    (case sb_NoWheel_NoCount => k_is)
    (case sb_NoWheel_NoRow => k_is)
    (case sb_NoWheel_NoText => k_is)
    (case sb_NoWheel_TooMany => k_is)
    (case sv_NoWheel_ValueError => k_is)
    (case pg_Wheel => k_is)
    (case hd_Wheel => k_is)
    (case po_Wheel => k_is)
    (case sa_Wheel => k_is)
    (case ec_Wheel => k_is)
    (case em_Wheel => k_is)
    (case na_Wheel_ring => k_is)
    (case mk_Wheel => k_is)
    (case kp_Wheel => k_is)
