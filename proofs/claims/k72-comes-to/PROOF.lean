import PyProof.Rows.All
import Wide.All
import OpenK.AllK
import Wide.FinOn
import HandS.ForMost
import HandS.IsInst
import HandS.Flow
import HandS.Wide
import HandS.Lambda
import KE.KDictCopyH
import HandS.Iter
import KE.KDictKeyed
import HandS.ExcValue
import HandS.ExcIs
import HandS.WordsExc
import HandS.TryOnly
import HandS.TupAny
import HandS.TupMul
import HandS.Deep
import HandS.RaiseMore
import HandS.SortKw
import KE.DataMinMax
import HandS.TupLe
import PyProof.FactsAll.tuple_2
import PyProof.EqAt
import PyProof.LongRange
import HandS.WideBits
import HandS.SortInts
import PyProof.ListRange
import HandS.Conv
import HandS.Style
import HandS.List
import PyProof.ReprRoads
import PyProof.ReprReads
import KE.KMinKey
import KE.SortData
import KE.LtData
import HandS.CallLocal
import HandS.EndTab
import HandS.HeadWalk
import KE.GoesMore
import HandS.Defaults
import HandS.Text
import HandS.StrMore
import HandS.Replace
import HandS.Codes
import HandS.ExcInit
import HandS.ExcField
import HandS.More
import HandS.SetKeys
import HandS.SetFor
import HandS.Strs
import PyProof.Rows.SortShellAny
import KE.KDictWalk
import KE.KDictOf
import KE.KEqDict
import PySem.Challenge.RW_farrows_k72_whole_comes_to
set_option Elab.async false
set_option linter.all false
set_option maxRecDepth 100000
set_option maxHeartbeats 4000000
set_option autoImplicit false
namespace Far
open PySem L2 PySem.Spec PyProof.Rows
open Sem (wp)
abbrev KO := Option Int
def kL : KO → Leaf
  | none => .none
  | some i => .num i
theorem kL_inj {a b : KO} (h : kL a = kL b) : a = b := by
  cases a <;> cases b <;> simp [kL] at h ⊢
  exact h
def vO : KO → V
  | none => .non
  | some i => .int i
def isO : KO → Value → Bool
  | none, .none => true
  | some i, .int j _ => decide (j = i)
  | _, _ => false
theorem isO_leaf : ∀ {k : KO} {v : Value}, isO k v = true → Leaf.isOf (kL k) v = true
  | none, v, h => by cases v <;> first | rfl | exact absurd h Bool.false_ne_true
  | some i, v, h => by cases v <;> first | exact h | exact absurd h Bool.false_ne_true
/-- the kind of such keys -/
def oKind (P : Program) (w : World) : KeyKind P w KO where
  is := isO
  hash := fun k => (match k with | none => reduceHash 0xFCA86420 | some i => hashInt i)
  inj := fun v a b ha hb => kL_inj ((leafKind P w).inj v _ _ (isO_leaf ha) (isO_leaf hb))
  byValue := fun k v h => (leafKind P w).byValue (kL k) v (isO_leaf h)
  pyHash := fun {A E s k v Q} hv h => (leafKind P w).pyHash (k := kL k) (isO_leaf hv) (by
    cases k <;> exact h)
  eqBool := fun {A E s a b u v Q} hu hv h => (leafKind P w).eqBool (a := kL a) (b := kL b) (isO_leaf hu) (isO_leaf hv) (by
    have e : decide (kL a = kL b) = decide (a = b) := decide_eq_decide.mpr ⟨kL_inj, fun z => by rw [z]⟩
    rw [e]; exact h)
  «strs» := fun k x t v h => by cases k <;> exact absurd h Bool.false_ne_true
theorem vO_is {P : Program} {w : World} {k : KO} {u : Value} (r : RelV (vO k) u) : (oKind P w).is k u = true := by
  cases k with
  | none =>
    have e : u = .none := r
    subst e; rfl
  | some i =>
    obtain ⟨t, e⟩ := (show ∃ t, u = .int i t from r)
    subst e
    show decide (i = i) = true
    simp
def encO (kvs : List (KO × KO)) : List (KO × V) := kvs.map fun p => (p.1, vO p.2)
def DP (a : Addr) (o : Obj) (kvs : List (KO × KO)) (h : Heap) : Prop :=
  h.get? a = some o ∧ kvs.length ≤ sizeLine ∧ (a == sysModules) = false ∧ ∃ vs, KV (encO kvs) vs ∧ ∀ P w, h.DictOf (oKind P w) a vs
/-- such a dict at a, its object o -/
abbrev DO (a : Addr) (o : Obj) (kvs : List (KO × KO)) : HO := .ext (DP a o kvs)
section
variable {X : Cx} {pins : List (Addr × Obj)} {σ : L2.St} {H : Hp} {s : Shared} {a : Addr} {A : Around} {E : Value → Shared → Prop} {kvs : List (KO × KO)} {ob : Obj}
end
def TV (gs : List (List KO × Addr × V)) (xs : List (List KO × Addr × Value)) : Prop := Paired (fun p q => p.1 = q.1 ∧ p.2.1 = q.2.1 ∧ RelV p.2.2 q.2.2) gs xs
def TP (a : Addr) (og : Obj × List (List KO × Addr × V)) (h : Heap) : Prop :=
  h.get? a = some og.1 ∧ og.2.length ≤ sizeLine ∧ (a == sysModules) = false ∧ ∃ xs, TV og.2 xs ∧ ∃ es ep, og.1.ExactDict ∧ og.1.data = .dict es ep ∧ (∀ P w, es.toList = xs.map (entryOfKey (tupleKind (oKind P w)))) ∧ (xs.map (·.1)).Nodup
/-- such a dict at a: its object, its entries -/
abbrev DT (a : Addr) (og : Obj × List (List KO × Addr × V)) : HO := .ext (TP a og)
section
variable {X : Cx} {o e f i value : Expr} {apos cpos pos pos' : Pos} {td ty tx tv : TE}
end
section
variable {P : Program} {w : World} {K : PySem.W.Frag} {d : Addr} {o : Obj} {es : Array DictEntry} {ep : Nat}
end
end Far
namespace Far
open PySem L2

/-- what a value is, without the heap -/
inductive D where
  | non | bl (b : Bool) | int (i : Int) | str (x : Str) | ty (n : String) | cls (a : Addr)
  | tup (xs : List D) | utp (xs : List D) | lst (xs : List D) | scr (xs : List D) | ins (C : Addr) (fs : List (Str × D)) | dK (kvs : List (Key × D)) | dP (kvs : List (Key × D)) | dO (kvs : List (KO × KO)) | dT (es : List (List KO × D)) | dU (es : List (List KO × D)) | exc (C : Addr) (fs : List (Str × D)) | lam (f c : Addr) (q : Str) (cvs : List V) (caps : List D)
/-- an exception object that was caught and is kept -/
def ExK (cls : Value) (d : Option Addr) (a : Addr) : HO := .ext fun h => ∃ (oe : Obj) (vs : Array Value), h.get? a = some oe ∧ Zc cls d oe ∧ oe.data = .fields vs

/-- a tuple at a that has no dict of its own -/
def SqP (K : PySem.W.Frag) (H : Hp) (a : Addr) (xs : List V) : Prop := (∃ o : Obj, H a = some (.frz o (.tup xs)) ∧ o.cls = .type "tuple" ∧ o.dict = none) ∨
  ∃ (o : Obj) (its : Array Value) (n : Nat), K.lookup a = some o ∧ o.cls = .type "tuple" ∧ o.dict = none ∧ o.data = .seq its n ∧ its.size ≤ sizeLine ∧ Vals xs its.toList
theorem SqP.t {K : PySem.W.Frag} {H : Hp} {a : Addr} {xs : List V} (h : SqP K H a xs) : SqT K H a xs := by
  rcases h with ⟨o, h, _⟩ | ⟨o, its, n, h1, h2, _, h3, h4, h5⟩
  · exact .inl (.inr ⟨o, h⟩)
  · exact .inr ⟨o, its, n, h1, h2, h3, h4, h5⟩
/-- a tuple just made -/
def NewT (H : Hp) (xs : List V) (Q : VK) : Prop := ∀ (p : Addr) (o : Obj), H p = none → o.cls = .type "tuple" → o.dict = none → Q (.ref p) (upd H p (.frz o (.tup xs)))
section
variable (K : PySem.W.Frag) (H : Hp)
mutual
/-- v lies in H as the data d -/
inductive Rp : D → V → Prop
  | non : Rp .non .non
  | bl {b} : Rp (.bl b) (.bl b)
  | int {i} : Rp (.int i) (.int i)
  | str {x} : Rp (.str x) (.str x)
  | ty {n} : Rp (.ty n) (.ty n)
  | cls {a} : Rp (.cls a) (.ref a)
  | tup {a vs xs} : SqP K H a vs → RpL xs vs → Rp (.tup xs) (.ref a)
  | utp {a vs xs} : SqT K H a vs → RpL xs vs → Rp (.utp xs) (.ref a)
  | lst {a vs xs} : H a = some (.lst vs) → RpL xs vs → Rp (.lst xs) (.ref a)
  | scr {a vs xs} : SqL K H a vs → RpL xs vs → Rp (.scr xs) (.ref a)
  | ins {a dx C fs gs} : H a = some (.ins C dx gs) → RpF fs gs → Rp (.ins C fs) (.ref a)
  | dK {a fs gs} : H a = some (.dK gs) → RpK fs gs → Rp (.dK fs) (.ref a)
  | dP {a o fs gs} : H a = some (.frz o (.dK gs)) → RpK fs gs → Rp (.dP fs) (.ref a)
  | dO {a ob kvs} : H a = some (DO a ob kvs) → Rp (.dO kvs) (.ref a)
  | dT {a od og es} : H a = some (.frz od (DT a og)) → RpT es og.2 → Rp (.dT es) (.ref a)
  | dU {a og es} : H a = some (DT a og) → RpT es og.2 → Rp (.dU es) (.ref a)
  | exc0 {a C} : H a = some (ExK (.ref C) none a) → Rp (.exc C []) (.ref a)
  | exc1 {a C dd fs gs} : H a = some (ExK (.ref C) (some dd) a) → H dd = some (.xd gs) → RpF fs gs → fs ≠ [] → Rp (.exc C fs) (.ref a)
  | exo {a C} : H a = some (ExO (.ref C) a) → Rp (.exc C []) (.ref a)
  | lam {f c q cvs caps} : H c = some (LamX.CodeO c q) → RpL caps cvs → Rp (.lam f c q cvs caps) (.ref f)
inductive RpL : List D → List V → Prop
  | nil : RpL [] []
  | cons {x v xs vs} : Rp x v → RpL xs vs → RpL (x :: xs) (v :: vs)
inductive RpF : List (Str × D) → List (Str × V) → Prop
  | nil : RpF [] []
  | cons {f x v xs vs} : Rp x v → RpF xs vs → RpF ((f, x) :: xs) ((f, v) :: vs)
inductive RpK : List (Key × D) → List (Key × V) → Prop
  | nil : RpK [] []
  | cons {f x v xs vs} : Rp x v → RpK xs vs → RpK ((f, x) :: xs) ((f, v) :: vs)
inductive RpT : List (List KO × D) → List (List KO × Addr × V) → Prop
  | nil : RpT [] []
  | cons {f q x v xs vs} : SqP K H q (f.map vO) → Rp x v → RpT xs vs → RpT ((f, x) :: xs) ((f, q, v) :: vs)
end
end

/-- no table of code objects -/
def ntb : HO → Bool
  | .tbl _ => false | _ => true
/-- all of H stands in H'; tables may grow -/
structure Ex (H H' : Hp) : Prop where
  nt : ∀ a o, H a = some o → ntb o = true → H' a = some o
  tb : ∀ a ps, H a = some (.tbl ps) → ∃ ps', H' a = some (.tbl ps')
theorem Ex.app {H H' : Hp} (e : Ex H H') (a : Addr) (o : HO) (h : H a = some o) (n : ntb o = true := by exact rfl) : H' a = some o := e.nt a o h n
instance {H H' : Hp} : CoeFun (Ex H H') fun _ => ∀ (a : Addr) (o : HO) (_ : H a = some o) (_ : ntb o = true := by exact rfl), H' a = some o := ⟨@Ex.app H H'⟩
theorem Ex.of {H H' : Hp} (h : ∀ a o, H a = some o → H' a = some o) : Ex H H' := ⟨fun a o e _ => h a o e, fun a ps e => ⟨ps, h a _ e⟩⟩
theorem Ex.refl (H : Hp) : Ex H H := .of fun _ _ h => h
theorem Ex.trans {H H1 H2 : Hp} (a : Ex H H1) (b : Ex H1 H2) : Ex H H2 := ⟨fun x o h n => b.nt x o (a.nt x o h n) n, fun x ps h => by
  obtain ⟨ps', e⟩ := a.tb x ps h
  exact b.tb x ps' e⟩
theorem Ex.put {A H : Hp} {p : Addr} {u : HO} (e : Ex A H) (n : A p = none) : Ex A (upd H p u) := ⟨fun a o h k => by
  rw [upd_ne (ne_of_none h n)]; exact e.nt a o h k, fun a ps h => by
  rw [upd_ne (ne_of_none h n)]; exact e.tb a ps h⟩
theorem Ex.new {H : Hp} {p : Addr} {o : HO} (h : H p = none) : Ex H (upd H p o) := (Ex.refl H).put h
theorem Ex.lay {A H : Hp} {p : Addr} {u : HO} (e : Ex A H) (h : H p = some u) (n : ntb u = true := by exact rfl) : Ex (upd A p u) H := ⟨fun a o q k => by
  by_cases z : a = p
  · subst z; rw [upd_same] at q; cases q; exact h
  · rw [upd_ne z] at q; exact e.nt a o q k, fun a ps q => by
  by_cases z : a = p
  · subst z; rw [upd_same] at q; cases q; cases n
  · rw [upd_ne z] at q; exact e.tb a ps q⟩
/-- both grow by the same -/
theorem Ex.both {A H : Hp} {p : Addr} {u : HO} (e : Ex A H) : Ex (upd A p u) (upd H p u) := ⟨fun a o h k => by
  by_cases q : a = p
  · subst q; rw [upd_same] at h ⊢; exact h
  · rw [upd_ne q] at h ⊢; exact e.nt a o h k, fun a ps h => by
  by_cases q : a = p
  · subst q; rw [upd_same] at h ⊢; exact ⟨ps, h⟩
  · rw [upd_ne q] at h ⊢; exact e.tb a ps h⟩
theorem Ex.none {H H' : Hp} {p : Addr} (e : Ex H H') (h : H' p = none) : H p = none := by
  cases h1 : H p with
  | none => rfl
  | some o =>
    cases hn : ntb o with
    | true => rw [e.nt p o h1 hn] at h; cases h
    | false =>
      cases o with
      | tbl ps => obtain ⟨_, z⟩ := e.tb p ps h1; rw [z] at h; cases h
      | _ => cases hn
theorem Ex.rd {H H' : Hp} {a : Addr} {u : HO} (e : Ex H H') (h : Rd H a u) (n : ntb u = true := by exact rfl) : Rd H' a u := by
  rcases h with h | ⟨o, h⟩
  · exact Or.inl (e.nt a _ h n)
  · exact Or.inr ⟨o, e a _ h⟩
theorem Ex.l {K : PySem.W.Frag} {H H' : Hp} {a : Addr} {xs : List V} (e : Ex H H') (h : SqL K H a xs) : SqL K H' a xs := h.imp (fun z => e.rd z) id
theorem Ex.t {K : PySem.W.Frag} {H H' : Hp} {a : Addr} {xs : List V} (e : Ex H H') (h : SqT K H a xs) : SqT K H' a xs := h.imp (fun z => e.rd z) id
theorem Ex.p {K : PySem.W.Frag} {H H' : Hp} {a : Addr} {xs : List V} (e : Ex H H') (h : SqP K H a xs) : SqP K H' a xs := h.imp (fun ⟨o, h1, h2⟩ => ⟨o, e _ _ h1, h2⟩) id
section
variable {K : PySem.W.Frag} {H H' : Hp}
mutual
theorem Rp.mono (e : Ex H H') : ∀ {d v}, Rp K H d v → Rp K H' d v
  | _, _, .non => .non
  | _, _, .bl => .bl
  | _, _, .int => .int
  | _, _, .str => .str
  | _, _, .ty => .ty
  | _, _, .cls => .cls
  | _, _, .tup h r => .tup (e.p h) (RpL.mono e r)
  | _, _, .utp h r => .utp (e.t h) (RpL.mono e r)
  | _, _, .lst h r => .lst (e _ _ h) (RpL.mono e r)
  | _, _, .scr h r => .scr (e.l h) (RpL.mono e r)
  | _, _, .ins h r => .ins (e _ _ h) (RpF.mono e r)
  | _, _, .dK h r => .dK (e _ _ h) (RpK.mono e r)
  | _, _, .dP h r => .dP (e _ _ h) (RpK.mono e r)
  | _, _, .dO h => .dO (e _ _ h)
  | _, _, .dT h r => .dT (e _ _ h) (RpT.mono e r)
  | _, _, .dU h r => .dU (e _ _ h) (RpT.mono e r)
  | _, _, .exc0 h => .exc0 (e _ _ h)
  | _, _, .exc1 h h2 r n => .exc1 (e _ _ h) (e _ _ h2) (RpF.mono e r) n
  | _, _, .exo h => .exo (e _ _ h)
  | _, _, .lam h r => .lam (e _ _ h) (RpL.mono e r)
theorem RpL.mono (e : Ex H H') : ∀ {d v}, RpL K H d v → RpL K H' d v
  | _, _, .nil => .nil
  | _, _, .cons h r => .cons (Rp.mono e h) (RpL.mono e r)
theorem RpF.mono (e : Ex H H') : ∀ {d v}, RpF K H d v → RpF K H' d v
  | _, _, .nil => .nil
  | _, _, .cons h r => .cons (Rp.mono e h) (RpF.mono e r)
theorem RpK.mono (e : Ex H H') : ∀ {d v}, RpK K H d v → RpK K H' d v
  | _, _, .nil => .nil
  | _, _, .cons h r => .cons (Rp.mono e h) (RpK.mono e r)
theorem RpT.mono (e : Ex H H') : ∀ {d v}, RpT K H d v → RpT K H' d v
  | _, _, .nil => .nil
  | _, _, .cons t h r => .cons (e.p t) (Rp.mono e h) (RpT.mono e r)
end
/-- the entries, and that there is such a dict -/
structure RpTS (K : PySem.W.Frag) (H : Hp) (es : List (List KO × D)) (p : Addr) (og : Obj × List (List KO × Addr × V)) : Prop where
  r : RpT K H es og.2
  s : ∃ h, TP p og h
theorem RpTS.mono {es : List (List KO × D)} {p : Addr} {og : Obj × List (List KO × Addr × V)} (h : RpTS K H es p og) (e : Ex H H') : RpTS K H' es p og := ⟨RpT.mono e h.r, h.s⟩
theorem RpL.length : ∀ {xs : List D} {vs : List V}, RpL K H xs vs → xs.length = vs.length
  | _, _, .nil => rfl
  | _, _, .cons _ r => congrArg (· + 1) r.length
theorem RpL.get : ∀ {xs : List D} {vs : List V} {i : Nat} {x : D}, RpL K H xs vs → xs[i]? = some x → ∃ v, vs[i]? = some v ∧ Rp K H x v
  | _, _, _, _, .nil, h => by simp at h
  | _, _, 0, _, .cons h _, e => by simp at e; subst e; exact ⟨_, rfl, h⟩
  | _, _, i + 1, x, .cons _ r, e => RpL.get (i := i) r (by simpa using e)
theorem RpL.getV : ∀ {xs : List D} {vs : List V} {i : Nat} {v : V}, RpL K H xs vs → vs[i]? = some v → ∃ x, xs[i]? = some x ∧ Rp K H x v
  | _, _, _, _, .nil, h => by simp at h
  | _, _, 0, _, .cons h _, e => by simp at e; subst e; exact ⟨_, rfl, h⟩
  | _, _, i + 1, x, .cons _ r, e => RpL.getV (i := i) r (by simpa using e)
theorem RpL.append : ∀ {xs ys : List D} {vs us : List V}, RpL K H xs vs → RpL K H ys us → RpL K H (xs ++ ys) (vs ++ us)
  | _, _, _, _, .nil, s => s
  | _, _, _, _, .cons h r, s => .cons h (r.append s)
theorem RpL.drop : ∀ {xs : List D} {vs : List V} (n : Nat), RpL K H xs vs → RpL K H (xs.drop n) (vs.drop n)
  | _, _, 0, r => r
  | _, _, _ + 1, .nil => .nil
  | _, _, n + 1, .cons _ r => r.drop n
theorem RpL.take : ∀ {xs : List D} {vs : List V} (n : Nat), RpL K H xs vs → RpL K H (xs.take n) (vs.take n)
  | _, _, 0, _ => .nil
  | _, _, _ + 1, .nil => .nil
  | _, _, n + 1, .cons h r => .cons h (r.take n)
theorem RpL.set {x : D} {v : V} (h : Rp K H x v) : ∀ {xs : List D} {vs : List V} (i : Nat), RpL K H xs vs → RpL K H (xs.set i x) (vs.set i v)
  | _, _, _, .nil => .nil
  | _, _, 0, .cons _ r => .cons h r
  | _, _, i + 1, .cons g r => .cons g (r.set h i)
theorem RpF.lookup {f : Str} {x : D} : ∀ {fs : List (Str × D)} {gs : List (Str × V)}, RpF K H fs gs → fs.lookup f = some x → ∃ v, gs.lookup f = some v ∧ Rp K H x v
  | _, _, .nil, h => by simp at h
  | _, _, .cons (f := g) h r, e => by
    rw [List.lookup_cons] at e ⊢
    by_cases q : (f == g) = true
    · rw [q] at e ⊢; cases e; exact ⟨_, rfl, h⟩
    · have q' : (f == g) = false := by simpa using q
      rw [q'] at e ⊢; exact r.lookup e
theorem RpF.nolook {f : Str} : ∀ {fs : List (Str × D)} {gs : List (Str × V)}, RpF K H fs gs → fs.lookup f = none → gs.lookup f = none
  | _, _, .nil, h => rfl
  | _, _, .cons (f := g) h r, e => by
    rw [List.lookup_cons] at e ⊢
    by_cases q : (f == g) = true
    · rw [q] at e; cases e
    · have q' : (f == g) = false := by simpa using q
      rw [q'] at e ⊢; exact r.nolook e
end
/-- a field stored -/
def putD (f : Str) (x : D) : List (Str × D) → List (Str × D)
  | [] => [(f, x)]
  | (g, y) :: r => if g = f then (g, x) :: r else (g, y) :: putD f x r
section
variable {K : PySem.W.Frag} {H : Hp}
theorem RpF.put {f : Str} {x : D} {v : V} (h : Rp K H x v) : ∀ {fs : List (Str × D)} {gs : List (Str × V)}, RpF K H fs gs → RpF K H (putD f x fs) (putF f v gs)
  | _, _, .nil => .cons h .nil
  | _, _, .cons (f := g) (vs := vs) q r => by
    unfold putD putF
    by_cases e : g = f
    · rw [if_pos e, if_pos e]; exact .cons h r
    · rw [if_neg e, if_neg e]; exact .cons q (r.put h)
theorem RpF.length : ∀ {fs : List (Str × D)} {gs : List (Str × V)}, RpF K H fs gs → fs.length = gs.length
  | _, _, .nil => rfl
  | _, _, .cons _ r => congrArg (· + 1) r.length
end

/-- a slot told: nothing known; data that nobody changes; a list that this frame alone holds; an instance that it alone holds -/
inductive S where
  | un | d (x : D) | own (xs : List D) | okd (kvs : List (Key × D)) | oko (kvs : List (KO × KO)) | okt (es : List (List KO × D)) | ob (q : Option Addr) (C : Addr) (fs : List (Str × D)) | ot (A xs B : List D)

/-- He: the heap at the entry; Ge: what of it was told as data; G: what is told as data now; H: the heap now -/
def SlotOk (K : PySem.W.Frag) (He G H : Hp) : S → Option V → Prop
  | .un, _ => True
  | .ot _ _ _, _ => True
  | .d x, o => ∃ v, o = some v ∧ Rp K G x v
  | .own xs, o => ∃ p vs, o = some (.ref p) ∧ He p = none ∧ G p = none ∧ H p = some (.lst vs) ∧ RpL K G xs vs
  | .okd kvs, o => ∃ p gs, o = some (.ref p) ∧ He p = none ∧ G p = none ∧ H p = some (.dK gs) ∧ RpK K G kvs gs
  | .okt es, o => ∃ p og, o = some (.ref p) ∧ He p = none ∧ G p = none ∧ H p = some (DT p og) ∧ RpTS K G es p og
  | .oko kvs, o => ∃ p ob, o = some (.ref p) ∧ He p = none ∧ G p = none ∧ H p = some (DO p ob kvs)
  | .ob q C fs, o => ∃ a dx gs, o = some (.ref a) ∧ (∀ b, q = some b → a = b) ∧ He a = none ∧ G a = none ∧ He dx = none ∧ G dx = none ∧ H a = some (.ins C dx gs) ∧ H dx = some (.own a) ∧ RpF K G fs gs
def owned : S → Bool
  | .own _ => true | .okd _ => true | .oko _ => true | .okt _ => true | .ob _ _ _ => true | _ => false
def tabsGo (a : Addr) : PySem.W.Frag → List (Addr × Str)
  | (b, o) :: r => if b = a then (match o.cls, o.data with | .ref P, .fields vs => (match vs.toList with | .str q _ :: _ => (P, q) :: tabsGo a r | _ => tabsGo a r) | _, _ => tabsGo a r) else []
  | [] => []
def tabsK : PySem.W.Frag → List (Addr × Str)
  | (a, _) :: r => tabsGo a r
  | [] => []
def TabOk (K : PySem.W.Frag) (H G : Hp) : Prop := ∀ P ∈ tabsK K, ∃ ps, H P.1 = some (.tbl ps) ∧ TriplesOk ps.toList ∧ ∀ pos cv, codeAmong pos ps.toList = some cv → ∃ c, cv = .ref c ∧ G c = some (LamX.CodeO c P.2)
theorem TabOk.mono {K : PySem.W.Frag} {H G H' G' : Hp} (h : TabOk K H G) (k : ∀ P ps, H P = some (.tbl ps) → H' P = some (.tbl ps)) (g : Ex G G') : TabOk K H' G' := fun P hP => by
  obtain ⟨ps, h1, h2, h3⟩ := h P hP
  refine ⟨ps, k P.1 ps h1, h2, fun pos cv e => ?_⟩
  obtain ⟨c, e1, e2⟩ := h3 pos cv e
  exact ⟨c, e1, g c _ e2⟩
theorem TabOk.sub {K : PySem.W.Frag} {H G G' : Hp} (h : TabOk K H G) (g : ∀ c q, G c = some (LamX.CodeO c q) → G' c = some (LamX.CodeO c q)) : TabOk K H G' := fun P hP => by
  obtain ⟨ps, h1, h2, h3⟩ := h P hP
  refine ⟨ps, h1, h2, fun pos cv e => ?_⟩
  obtain ⟨c, e1, e2⟩ := h3 pos cv e
  exact ⟨c, e1, g c _ e2⟩
theorem TabOk.put {K : PySem.W.Frag} {H G G' : Hp} {p : Addr} {u : HO} (h : TabOk K H G) (n : ∀ ps, H p ≠ some (.tbl ps)) (g : Ex G G') : TabOk K (upd H p u) G' := h.mono (fun P ps e => by
  rw [upd_ne (fun z => n ps (by rw [← z]; exact e))]; exact e) g
theorem TabOk.new {K : PySem.W.Frag} {H G G' : Hp} {p : Addr} {u : HO} (h : TabOk K H G) (n : H p = none) (g : Ex G G') : TabOk K (upd H p u) G' := h.put (fun ps z => by rw [n] at z; cases z) g
/-- what was tracked and no data is no data still; the tables are in order, as they were -/
structure Nc (K : PySem.W.Frag) (He Ge H G : Hp) : Prop where
  nc : ∀ b, He b ≠ none → Ge b = none → G b = none
  t0 : TabOk K He Ge
  tb : TabOk K H G
instance {K : PySem.W.Frag} {He Ge H G : Hp} : CoeFun (Nc K He Ge H G) fun _ => ∀ b, He b ≠ none → Ge b = none → G b = none := ⟨fun h => h.nc⟩
/-- .. where the tables are in order behind it if they were ahead -/
structure Nw (K : PySem.W.Frag) (H G H' G' : Hp) : Prop where
  nc : ∀ b, H b ≠ none → G b = none → G' b = none
  tb : TabOk K H G → TabOk K H' G'
theorem Nw.refl {K : PySem.W.Frag} {H G : Hp} : Nw K H G H G := ⟨fun _ _ z => z, id⟩
theorem Nw.ok {K : PySem.W.Frag} {H G H' G' : Hp} (h : Nw K H G H' G') (t : TabOk K H G) : Nc K H G H' G' := ⟨h.nc, t, h.tb t⟩
structure OKG (K : PySem.W.Frag) (He Ge H G : Hp) (σ : St) (δ : List S) : Prop where
  ge : Ex Ge G
  gh : Ex G H
  he : Ex He H
  nc : Nc K He Ge H G
  sl : ∀ (i : Nat) (s : S), δ[i]? = some s → ∃ o, σ[i]? = some o ∧ SlotOk K He G H s o
  ne : ∀ (i j : Nat) (s t : S) (p : Addr), i ≠ j → δ[i]? = some s → δ[j]? = some t → owned s = true → owned t = true → σ[i]? = some (some (.ref p)) → σ[j]? = some (some (.ref p)) → False
def OK (K : PySem.W.Frag) (He Ge H : Hp) (σ : St) (δ : List S) : Prop := ∃ G, OKG K He Ge H G σ δ
theorem SlotOk.mono {K : PySem.W.Frag} {He G G' H H' : Hp} {s : S} {o : Option V} (e : Ex G G') (k : ∀ p u, He p = none → G p = none → H p = some u → ntb u = true → H' p = some u ∧ G' p = none) (h : SlotOk K He G H s o) : SlotOk K He G' H' s o := by
  cases s with
  | un => trivial
  | ot _ _ _ => trivial
  | d x => obtain ⟨v, e1, r⟩ := h; exact ⟨v, e1, r.mono e⟩
  | own xs =>
    obtain ⟨p, vs, e1, h1, h2, h3, r⟩ := h
    obtain ⟨k1, k2⟩ := k p _ h1 h2 h3 rfl
    exact ⟨p, vs, e1, h1, k2, k1, r.mono e⟩
  | okd xs =>
    obtain ⟨p, vs, e1, h1, h2, h3, r⟩ := h
    obtain ⟨k1, k2⟩ := k p _ h1 h2 h3 rfl
    exact ⟨p, vs, e1, h1, k2, k1, r.mono e⟩
  | okt xs =>
    obtain ⟨p, vs, e1, h1, h2, h3, r⟩ := h
    obtain ⟨k1, k2⟩ := k p _ h1 h2 h3 rfl
    exact ⟨p, vs, e1, h1, k2, k1, r.mono e⟩
  | oko xs =>
    obtain ⟨p, vs, e1, h1, h2, h3⟩ := h
    obtain ⟨k1, k2⟩ := k p _ h1 h2 h3 rfl
    exact ⟨p, vs, e1, h1, k2, k1⟩
  | ob q C fs =>
    obtain ⟨a, dx, gs, e1, hq, h1, h2, h3, h4, h5, h6, r⟩ := h
    obtain ⟨k1, k2⟩ := k a _ h1 h2 h5 rfl
    obtain ⟨k3, k4⟩ := k dx _ h3 h4 h6 rfl
    exact ⟨a, dx, gs, e1, hq, h1, k2, h3, k4, k1, k3, r.mono e⟩
section
variable {K : PySem.W.Frag} {He Ge H G : Hp} {σ : St} {δ : List S}
/-- the heap grows; G grows by what is new -/
theorem OKG.grow {H' G' : Hp} (h : OKG K He Ge H G σ δ) (e : Ex H H') (g : Ex G G') (gh : Ex G' H') (nc : Nc K H G H' G') : OKG K He Ge H' G' σ δ where
  ge := h.ge.trans g
  gh := gh
  he := h.he.trans e
  nc := ⟨fun b h1 h2 => nc b (fun q => h1 (h.he.none q)) (h.nc b h1 h2), h.nc.t0, nc.tb⟩
  sl := fun i s q => by
    obtain ⟨o, e1, k⟩ := h.sl i s q
    exact ⟨o, e1, k.mono g fun p u _ h2 h3 n => ⟨e.nt p u h3 n, nc p (by rw [h3]; exact fun z => nomatch z) h2⟩⟩
  ne := h.ne
/-- one more value on top -/
theorem OKG.push {s : S} {o : Option V} (h : OKG K He Ge H G σ δ) (k : SlotOk K He G H s o) (n : owned s = true → ∀ (j : Nat) (t : S) (p : Addr), o = some (.ref p) → δ[j]? = some t → owned t = true → σ[j]? = some (some (.ref p)) → False) : OKG K He Ge H G (o :: σ) (s :: δ) where
  ge := h.ge
  gh := h.gh
  he := h.he
  nc := h.nc
  sl := fun i t q => by
    cases i with
    | zero => simp at q; subst q; exact ⟨o, rfl, k⟩
    | succ i => simp at q; simpa using h.sl i t q
  ne := fun i j s' t p hij hi hj o1 o2 e1 e2 => by
    cases i with
    | zero =>
      cases j with
      | zero => exact hij rfl
      | succ j => simp at hi hj e1 e2; subst hi; exact n o1 j t p e1 hj o2 e2
    | succ i =>
      cases j with
      | zero => simp at hi hj e1 e2; subst hj; exact n o2 i s' p e2 hi o1 e1
      | succ j => simp at hi hj e1 e2; exact h.ne i j s' t p (fun z => hij (by rw [z])) hi hj o1 o2 e1 e2
theorem OKG.pop {s : S} {o : Option V} (h : OKG K He Ge H G (o :: σ) (s :: δ)) : OKG K He Ge H G σ δ where
  ge := h.ge
  gh := h.gh
  he := h.he
  nc := h.nc
  sl := fun i t q => by simpa using h.sl (i + 1) t (by simpa using q)
  ne := fun i j s' t p hij hi hj o1 o2 e1 e2 => h.ne (i + 1) (j + 1) s' t p (by omega) (by simpa using hi) (by simpa using hj) o1 o2 (by simpa using e1) (by simpa using e2)
theorem OKG.top {s : S} {o : Option V} (h : OKG K He Ge H G (o :: σ) (s :: δ)) : SlotOk K He G H s o := by
  obtain ⟨o', e, k⟩ := h.sl 0 s rfl
  cases e; exact k
theorem OKG.pushD {x : D} {v : V} (h : OKG K He Ge H G σ δ) (r : Rp K G x v) : OKG K He Ge H G (some v :: σ) (.d x :: δ) := h.push ⟨v, rfl, r⟩ fun z => nomatch z
/-- a new object that is data at once -/
theorem OKG.newG {p : Addr} {u : HO} (h : OKG K He Ge H G σ δ) (hp : H p = none) : OKG K He Ge (upd H p u) (upd G p u) σ δ := by
  have hg : G p = none := h.gh.none hp
  refine h.grow (.new hp) (.new hg) h.gh.both ⟨fun b h1 h2 => ?_, h.nc.tb, h.nc.tb.new hp (.new hg)⟩
  rw [upd_ne (fun q => h1 (by rw [q]; exact hp))]; exact h2
/-- a new object that is not told as data -/
theorem OKG.newH {p : Addr} {u : HO} (h : OKG K He Ge H G σ δ) (hp : H p = none) : OKG K He Ge (upd H p u) G σ δ :=
  h.grow (.new hp) (.refl G) (h.gh.trans (.new hp)) ⟨fun _ _ z => z, h.nc.tb, h.nc.tb.new hp (.refl G)⟩
/-- slots weaker: some forgotten -/
def weak : List S → List S → Prop := fun δ δ' => ∀ (i : Nat) (s : S), δ'[i]? = some s → δ[i]? = some s ∨ (s = .un ∧ ∃ t, δ[i]? = some t)
theorem OKG.weak {δ' : List S} (h : OKG K He Ge H G σ δ) (w : weak δ δ') : OKG K He Ge H G σ δ' where
  ge := h.ge
  gh := h.gh
  he := h.he
  nc := h.nc
  sl := fun i t q => by
    rcases w i t q with z | ⟨rfl, t, z⟩
    · exact h.sl i t z
    · obtain ⟨o, e, _⟩ := h.sl i t z
      exact ⟨o, e, trivial⟩
  ne := fun i j s' t p hij hi hj o1 o2 e1 e2 => by
    rcases w i _ hi with z | ⟨rfl, _, z⟩
    · rcases w j _ hj with z2 | ⟨rfl, _, z2⟩
      · exact h.ne i j s' t p hij z z2 o1 o2 e1 e2
      · cases o2
    · cases o1
theorem OKG.len (h : OKG K He Ge H G σ δ) : δ.length ≤ σ.length := by
  rcases Nat.lt_or_ge σ.length δ.length with q | q
  · obtain ⟨o, e, _⟩ := h.sl σ.length (δ[σ.length]) (List.getElem?_eq_getElem q)
    simp at e
  · exact q
/-- a slot is stored -/
theorem OKG.store {i : Nat} {s : S} {o : Option V} (h : OKG K He Ge H G (o :: σ) (s :: δ)) (hi : i < δ.length) : OKG K He Ge H G (σ.set i o) (δ.set i s) := by
  have hl : i < σ.length := Nat.lt_of_lt_of_le hi h.pop.len
  refine ⟨h.ge, h.gh, h.he, h.nc, fun j t q => ?_, fun j k s' t p hjk hj hk o1 o2 e1 e2 => ?_⟩
  · by_cases z : i = j
    · subst z
      rw [List.getElem?_set_self hi] at q; cases q
      rw [List.getElem?_set_self hl]
      exact ⟨o, rfl, h.top⟩
    · rw [List.getElem?_set_ne z] at q ⊢
      exact h.pop.sl j t q
  · by_cases z : i = j
    · subst z
      rw [List.getElem?_set_self hi] at hj; cases hj
      rw [List.getElem?_set_ne hjk] at hk e2
      rw [List.getElem?_set_self hl] at e1
      cases e1
      exact h.ne 0 (k + 1) s t p (by omega) rfl (by simpa using hk) o1 o2 rfl (by simpa using e2)
    · by_cases z2 : i = k
      · subst z2
        rw [List.getElem?_set_self hi] at hk; cases hk
        rw [List.getElem?_set_ne z] at hj e1
        rw [List.getElem?_set_self hl] at e2
        cases e2
        exact h.ne 0 (j + 1) s s' p (by omega) rfl (by simpa using hj) o2 o1 rfl (by simpa using e1)
      · rw [List.getElem?_set_ne z] at hj e1
        rw [List.getElem?_set_ne z2] at hk e2
        exact h.pop.ne j k s' t p hjk hj hk o1 o2 e1 e2
/-- the list on top is data from now on -/
theorem OKG.freezeX {xs : List D} {o : Option V} (h : OKG K He Ge H G (o :: σ) (.own xs :: δ)) : ∃ G', Ex G G' ∧ OKG K He Ge H G' (o :: σ) (.d (.lst xs) :: δ) := by
  obtain ⟨p, vs, rfl, h1, h2, h3, r⟩ := h.top
  refine ⟨upd G p (.lst vs), .new h2, OKG.push (OKG.mk ?_ ?_ h.he ⟨?_, h.nc.t0, h.nc.tb.mono (fun _ _ e => e) (.new h2)⟩ ?_ h.pop.ne) ⟨_, rfl, .lst upd_same (r.mono (.new h2))⟩ fun z => nomatch z⟩
  · exact h.ge.trans (.new h2)
  · refine ⟨fun a o e n => ?_, fun a ps e => ?_⟩
    · by_cases q : a = p
      · subst q; rw [upd_same] at e; cases e; exact h3
      · rw [upd_ne q] at e; exact h.gh.nt a o e n
    · by_cases q : a = p
      · subst q; rw [upd_same] at e; cases e
      · rw [upd_ne q] at e; exact h.gh.tb a ps e
  · intro b q1 q2
    have q : b ≠ p := fun z => q1 (by rw [z]; exact h1)
    rw [upd_ne q]; exact h.nc b q1 q2
  · intro i s q
    obtain ⟨o, e, k⟩ := h.pop.sl i s q
    refine ⟨o, e, ?_⟩
    cases s with
    | un => trivial
    | ot _ _ _ => trivial
    | d x => obtain ⟨v, e1, r'⟩ := k; exact ⟨v, e1, r'.mono (.new h2)⟩
    | own ys =>
      obtain ⟨p', vs', rfl, k1, k2, k3, r'⟩ := k
      have ne : p' ≠ p := fun z => h.ne 0 (i + 1) _ _ p (by omega) rfl (by simpa using q) rfl rfl rfl (by rw [← z]; simpa using e)
      exact ⟨p', vs', rfl, k1, by rw [upd_ne ne]; exact k2, k3, r'.mono (.new h2)⟩
    | okd ys =>
      obtain ⟨p', vs', rfl, k1, k2, k3, r'⟩ := k
      have ne : p' ≠ p := fun z => h.ne 0 (i + 1) _ _ p (by omega) rfl (by simpa using q) rfl rfl rfl (by rw [← z]; simpa using e)
      exact ⟨p', vs', rfl, k1, by rw [upd_ne ne]; exact k2, k3, r'.mono (.new h2)⟩
    | okt ys =>
      obtain ⟨p', vs', rfl, k1, k2, k3, r'⟩ := k
      have ne : p' ≠ p := fun z => h.ne 0 (i + 1) _ _ p (by omega) rfl (by simpa using q) rfl rfl rfl (by rw [← z]; simpa using e)
      exact ⟨p', vs', rfl, k1, by rw [upd_ne ne]; exact k2, k3, r'.mono (.new h2)⟩
    | oko ys =>
      obtain ⟨p', vs', rfl, k1, k2, k3⟩ := k
      have ne : p' ≠ p := fun z => h.ne 0 (i + 1) _ _ p (by omega) rfl (by simpa using q) rfl rfl rfl (by rw [← z]; simpa using e)
      exact ⟨p', vs', rfl, k1, by rw [upd_ne ne]; exact k2, k3⟩
    | ob q C fs =>
      obtain ⟨a, dx, gs, rfl, kq, k1, k2, k3, k4, k5, k6, r'⟩ := k
      have n1 : a ≠ p := fun z => by rw [z, h3] at k5; cases k5
      have n2 : dx ≠ p := fun z => by rw [z, h3] at k6; cases k6
      exact ⟨a, dx, gs, rfl, kq, k1, by rw [upd_ne n1]; exact k2, k3, by rw [upd_ne n2]; exact k4, k5, k6, r'.mono (.new h2)⟩
theorem OKG.freeze {xs : List D} {o : Option V} (h : OKG K He Ge H G (o :: σ) (.own xs :: δ)) : ∃ G', OKG K He Ge H G' (o :: σ) (.d (.lst xs) :: δ) :=
  let ⟨G', _, k⟩ := h.freezeX; ⟨G', k⟩
/-- the dict on top is data from now on -/
theorem OKG.freezeK {xs : List (Key × D)} {o : Option V} (h : OKG K He Ge H G (o :: σ) (.okd xs :: δ)) : ∃ G', OKG K He Ge H G' (o :: σ) (.d (.dK xs) :: δ) := by
  obtain ⟨p, vs, rfl, h1, h2, h3, r⟩ := h.top
  refine ⟨upd G p (.dK vs), OKG.push (OKG.mk ?_ ?_ h.he ⟨?_, h.nc.t0, h.nc.tb.mono (fun _ _ e => e) (.new h2)⟩ ?_ h.pop.ne) ⟨_, rfl, .dK upd_same (r.mono (.new h2))⟩ fun z => nomatch z⟩
  · exact h.ge.trans (.new h2)
  · refine ⟨fun a o e n => ?_, fun a ps e => ?_⟩
    · by_cases q : a = p
      · subst q; rw [upd_same] at e; cases e; exact h3
      · rw [upd_ne q] at e; exact h.gh.nt a o e n
    · by_cases q : a = p
      · subst q; rw [upd_same] at e; cases e
      · rw [upd_ne q] at e; exact h.gh.tb a ps e
  · intro b q1 q2
    have q : b ≠ p := fun z => q1 (by rw [z]; exact h1)
    rw [upd_ne q]; exact h.nc b q1 q2
  · intro i s q
    obtain ⟨o, e, k⟩ := h.pop.sl i s q
    refine ⟨o, e, ?_⟩
    cases s with
    | un => trivial
    | ot _ _ _ => trivial
    | d x => obtain ⟨v, e1, r'⟩ := k; exact ⟨v, e1, r'.mono (.new h2)⟩
    | own ys =>
      obtain ⟨p', vs', rfl, k1, k2, k3, r'⟩ := k
      have ne : p' ≠ p := fun z => h.ne 0 (i + 1) _ _ p (by omega) rfl (by simpa using q) rfl rfl rfl (by rw [← z]; simpa using e)
      exact ⟨p', vs', rfl, k1, by rw [upd_ne ne]; exact k2, k3, r'.mono (.new h2)⟩
    | okd ys =>
      obtain ⟨p', vs', rfl, k1, k2, k3, r'⟩ := k
      have ne : p' ≠ p := fun z => h.ne 0 (i + 1) _ _ p (by omega) rfl (by simpa using q) rfl rfl rfl (by rw [← z]; simpa using e)
      exact ⟨p', vs', rfl, k1, by rw [upd_ne ne]; exact k2, k3, r'.mono (.new h2)⟩
    | okt ys =>
      obtain ⟨p', vs', rfl, k1, k2, k3, r'⟩ := k
      have ne : p' ≠ p := fun z => h.ne 0 (i + 1) _ _ p (by omega) rfl (by simpa using q) rfl rfl rfl (by rw [← z]; simpa using e)
      exact ⟨p', vs', rfl, k1, by rw [upd_ne ne]; exact k2, k3, r'.mono (.new h2)⟩
    | oko ys =>
      obtain ⟨p', vs', rfl, k1, k2, k3⟩ := k
      have ne : p' ≠ p := fun z => h.ne 0 (i + 1) _ _ p (by omega) rfl (by simpa using q) rfl rfl rfl (by rw [← z]; simpa using e)
      exact ⟨p', vs', rfl, k1, by rw [upd_ne ne]; exact k2, k3⟩
    | ob q C fs =>
      obtain ⟨a, dx, gs, rfl, kq, k1, k2, k3, k4, k5, k6, r'⟩ := k
      have n1 : a ≠ p := fun z => by rw [z, h3] at k5; cases k5
      have n2 : dx ≠ p := fun z => by rw [z, h3] at k6; cases k6
      exact ⟨a, dx, gs, rfl, kq, k1, by rw [upd_ne n1]; exact k2, k3, by rw [upd_ne n2]; exact k4, k5, k6, r'.mono (.new h2)⟩
/-- the dict on top is data from now on -/
theorem OKG.freezeO {xs : List (KO × KO)} {o : Option V} (h : OKG K He Ge H G (o :: σ) (.oko xs :: δ)) : ∃ G', OKG K He Ge H G' (o :: σ) (.d (.dO xs) :: δ) := by
  obtain ⟨p, vs, rfl, h1, h2, h3⟩ := h.top
  refine ⟨upd G p (DO p vs xs), OKG.push (OKG.mk ?_ ?_ h.he ⟨?_, h.nc.t0, h.nc.tb.mono (fun _ _ e => e) (.new h2)⟩ ?_ h.pop.ne) ⟨_, rfl, .dO upd_same⟩ fun z => nomatch z⟩
  · exact h.ge.trans (.new h2)
  · refine ⟨fun a o e n => ?_, fun a ps e => ?_⟩
    · by_cases q : a = p
      · subst q; rw [upd_same] at e; cases e; exact h3
      · rw [upd_ne q] at e; exact h.gh.nt a o e n
    · by_cases q : a = p
      · subst q; rw [upd_same] at e; cases e
      · rw [upd_ne q] at e; exact h.gh.tb a ps e
  · intro b q1 q2
    have q : b ≠ p := fun z => q1 (by rw [z]; exact h1)
    rw [upd_ne q]; exact h.nc b q1 q2
  · intro i s q
    obtain ⟨o, e, k⟩ := h.pop.sl i s q
    refine ⟨o, e, ?_⟩
    cases s with
    | un => trivial
    | ot _ _ _ => trivial
    | d x => obtain ⟨v, e1, r'⟩ := k; exact ⟨v, e1, r'.mono (.new h2)⟩
    | own ys =>
      obtain ⟨p', vs', rfl, k1, k2, k3, r'⟩ := k
      have ne : p' ≠ p := fun z => h.ne 0 (i + 1) _ _ p (by omega) rfl (by simpa using q) rfl rfl rfl (by rw [← z]; simpa using e)
      exact ⟨p', vs', rfl, k1, by rw [upd_ne ne]; exact k2, k3, r'.mono (.new h2)⟩
    | okd ys =>
      obtain ⟨p', vs', rfl, k1, k2, k3, r'⟩ := k
      have ne : p' ≠ p := fun z => h.ne 0 (i + 1) _ _ p (by omega) rfl (by simpa using q) rfl rfl rfl (by rw [← z]; simpa using e)
      exact ⟨p', vs', rfl, k1, by rw [upd_ne ne]; exact k2, k3, r'.mono (.new h2)⟩
    | okt ys =>
      obtain ⟨p', vs', rfl, k1, k2, k3, r'⟩ := k
      have ne : p' ≠ p := fun z => h.ne 0 (i + 1) _ _ p (by omega) rfl (by simpa using q) rfl rfl rfl (by rw [← z]; simpa using e)
      exact ⟨p', vs', rfl, k1, by rw [upd_ne ne]; exact k2, k3, r'.mono (.new h2)⟩
    | oko ys =>
      obtain ⟨p', vs', rfl, k1, k2, k3⟩ := k
      have ne : p' ≠ p := fun z => h.ne 0 (i + 1) _ _ p (by omega) rfl (by simpa using q) rfl rfl rfl (by rw [← z]; simpa using e)
      exact ⟨p', vs', rfl, k1, by rw [upd_ne ne]; exact k2, k3⟩
    | ob q C fs =>
      obtain ⟨a, dx, gs, rfl, kq, k1, k2, k3, k4, k5, k6, r'⟩ := k
      have n1 : a ≠ p := fun z => by rw [z, h3] at k5; cases k5
      have n2 : dx ≠ p := fun z => by rw [z, h3] at k6; cases k6
      exact ⟨a, dx, gs, rfl, kq, k1, by rw [upd_ne n1]; exact k2, k3, by rw [upd_ne n2]; exact k4, k5, k6, r'.mono (.new h2)⟩
/-- a list of one's own in slot i changes -/
theorem OKG.change {i : Nat} {xs ys : List D} {p : Addr} {vs us : List V} (h : OKG K He Ge H G σ δ) (hi : δ[i]? = some (.own xs)) (hp : σ[i]? = some (some (.ref p))) (hl : H p = some (.lst vs)) (r : RpL K G ys us) : OKG K He Ge (upd H p (.lst us)) G σ (δ.set i (.own ys)) := by
  obtain ⟨o, e, k⟩ := h.sl i _ hi
  obtain ⟨p', vs', e1, h1, h2, h3, r'⟩ := k
  rw [e] at hp
  cases hp
  cases e1
  have hlt : i < δ.length := (List.getElem?_eq_some_iff.mp hi).1
  refine ⟨h.ge, h.gh.put h2, h.he.put h1, ⟨h.nc, h.nc.t0, h.nc.tb.put (fun ps z => by rw [hl] at z; cases z) (.refl G)⟩, fun j t q => ?_, fun j k s' t p' hjk hj hk o1 o2 e1 e2 => ?_⟩
  · by_cases z : i = j
    · subst z
      rw [List.getElem?_set_self hlt] at q; cases q
      exact ⟨_, e, p, us, rfl, h1, h2, upd_same, r⟩
    · rw [List.getElem?_set_ne z] at q
      obtain ⟨o, eo, k⟩ := h.sl j t q
      refine ⟨o, eo, ?_⟩
      cases t with
      | un => trivial
      | ot _ _ _ => trivial
      | d x => exact k
      | own zs =>
        obtain ⟨p2, vs2, rfl, k1, k2, k3, r2⟩ := k
        have ne : p2 ≠ p := fun y => h.ne i j _ _ p z hi q rfl rfl e (by rw [← y]; exact eo)
        exact ⟨p2, vs2, rfl, k1, k2, by rw [upd_ne ne]; exact k3, r2⟩
      | okd zs =>
        obtain ⟨p2, vs2, rfl, k1, k2, k3, r2⟩ := k
        have ne : p2 ≠ p := fun y => h.ne i j _ _ p z hi q rfl rfl e (by rw [← y]; exact eo)
        exact ⟨p2, vs2, rfl, k1, k2, by rw [upd_ne ne]; exact k3, r2⟩
      | okt zs =>
        obtain ⟨p2, vs2, rfl, k1, k2, k3, r2⟩ := k
        have ne : p2 ≠ p := fun y => h.ne i j _ _ p z hi q rfl rfl e (by rw [← y]; exact eo)
        exact ⟨p2, vs2, rfl, k1, k2, by rw [upd_ne ne]; exact k3, r2⟩
      | oko zs =>
        obtain ⟨p2, vs2, rfl, k1, k2, k3⟩ := k
        have ne : p2 ≠ p := fun y => h.ne i j _ _ p z hi q rfl rfl e (by rw [← y]; exact eo)
        exact ⟨p2, vs2, rfl, k1, k2, by rw [upd_ne ne]; exact k3⟩
      | ob q C fs =>
        obtain ⟨a, dx, gs, rfl, kq, k1, k2, k3, k4, k5, k6, r2⟩ := k
        have n1 : a ≠ p := fun y => by rw [y, hl] at k5; cases k5
        have n2 : dx ≠ p := fun y => by rw [y, hl] at k6; cases k6
        exact ⟨a, dx, gs, rfl, kq, k1, k2, k3, k4, by rw [upd_ne n1]; exact k5, by rw [upd_ne n2]; exact k6, r2⟩
  · have un : ∀ (m : Nat) (s : S), (δ.set i (.own ys))[m]? = some s → owned s = true → ∃ s2, δ[m]? = some s2 ∧ owned s2 = true := fun m s q q2 => by
      by_cases z : i = m
      · subst z; exact ⟨_, hi, rfl⟩
      · rw [List.getElem?_set_ne z] at q; exact ⟨s, q, q2⟩
    obtain ⟨s2, q1, q2⟩ := un j _ hj o1
    obtain ⟨t2, q3, q4⟩ := un k _ hk o2
    exact h.ne j k s2 t2 p' hjk q1 q3 q2 q4 e1 e2
/-- a dict of one's own in slot i changes -/
theorem OKG.changeK {i : Nat} {xs ys : List (Key × D)} {p : Addr} {vs us : List (Key × V)} (h : OKG K He Ge H G σ δ) (hi : δ[i]? = some (.okd xs)) (hp : σ[i]? = some (some (.ref p))) (hl : H p = some (.dK vs)) (r : RpK K G ys us) : OKG K He Ge (upd H p (.dK us)) G σ (δ.set i (.okd ys)) := by
  obtain ⟨o, e, k⟩ := h.sl i _ hi
  obtain ⟨p', vs', e1, h1, h2, h3, r'⟩ := k
  rw [e] at hp
  cases hp
  cases e1
  have hlt : i < δ.length := (List.getElem?_eq_some_iff.mp hi).1
  refine ⟨h.ge, h.gh.put h2, h.he.put h1, ⟨h.nc, h.nc.t0, h.nc.tb.put (fun ps z => by rw [hl] at z; cases z) (.refl G)⟩, fun j t q => ?_, fun j k s' t p' hjk hj hk o1 o2 e1 e2 => ?_⟩
  · by_cases z : i = j
    · subst z
      rw [List.getElem?_set_self hlt] at q; cases q
      exact ⟨_, e, p, us, rfl, h1, h2, upd_same, r⟩
    · rw [List.getElem?_set_ne z] at q
      obtain ⟨o, eo, k⟩ := h.sl j t q
      refine ⟨o, eo, ?_⟩
      cases t with
      | un => trivial
      | ot _ _ _ => trivial
      | d x => exact k
      | own zs =>
        obtain ⟨p2, vs2, rfl, k1, k2, k3, r2⟩ := k
        have ne : p2 ≠ p := fun y => h.ne i j _ _ p z hi q rfl rfl e (by rw [← y]; exact eo)
        exact ⟨p2, vs2, rfl, k1, k2, by rw [upd_ne ne]; exact k3, r2⟩
      | okd zs =>
        obtain ⟨p2, vs2, rfl, k1, k2, k3, r2⟩ := k
        have ne : p2 ≠ p := fun y => h.ne i j _ _ p z hi q rfl rfl e (by rw [← y]; exact eo)
        exact ⟨p2, vs2, rfl, k1, k2, by rw [upd_ne ne]; exact k3, r2⟩
      | okt zs =>
        obtain ⟨p2, vs2, rfl, k1, k2, k3, r2⟩ := k
        have ne : p2 ≠ p := fun y => h.ne i j _ _ p z hi q rfl rfl e (by rw [← y]; exact eo)
        exact ⟨p2, vs2, rfl, k1, k2, by rw [upd_ne ne]; exact k3, r2⟩
      | oko zs =>
        obtain ⟨p2, vs2, rfl, k1, k2, k3⟩ := k
        have ne : p2 ≠ p := fun y => h.ne i j _ _ p z hi q rfl rfl e (by rw [← y]; exact eo)
        exact ⟨p2, vs2, rfl, k1, k2, by rw [upd_ne ne]; exact k3⟩
      | ob q C fs =>
        obtain ⟨a, dx, gs, rfl, kq, k1, k2, k3, k4, k5, k6, r2⟩ := k
        have n1 : a ≠ p := fun y => by rw [y, hl] at k5; cases k5
        have n2 : dx ≠ p := fun y => by rw [y, hl] at k6; cases k6
        exact ⟨a, dx, gs, rfl, kq, k1, k2, k3, k4, by rw [upd_ne n1]; exact k5, by rw [upd_ne n2]; exact k6, r2⟩
  · have un : ∀ (m : Nat) (s : S), (δ.set i (.okd ys))[m]? = some s → owned s = true → ∃ s2, δ[m]? = some s2 ∧ owned s2 = true := fun m s q q2 => by
      by_cases z : i = m
      · subst z; exact ⟨_, hi, rfl⟩
      · rw [List.getElem?_set_ne z] at q; exact ⟨s, q, q2⟩
    obtain ⟨s2, q1, q2⟩ := un j _ hj o1
    obtain ⟨t2, q3, q4⟩ := un k _ hk o2
    exact h.ne j k s2 t2 p' hjk q1 q3 q2 q4 e1 e2
/-- a dict of one's own in slot i changes -/
theorem OKG.changeT {i : Nat} {xs ys : List (List KO × D)} {p : Addr} {vs us : Obj × List (List KO × Addr × V)} (h : OKG K He Ge H G σ δ) (hi : δ[i]? = some (.okt xs)) (hp : σ[i]? = some (some (.ref p))) (hl : H p = some (DT p vs)) (r : RpTS K G ys p us) : OKG K He Ge (upd H p (DT p us)) G σ (δ.set i (.okt ys)) := by
  obtain ⟨o, e, k⟩ := h.sl i _ hi
  obtain ⟨p', vs', e1, h1, h2, h3, r'⟩ := k
  rw [e] at hp
  cases hp
  cases e1
  have hlt : i < δ.length := (List.getElem?_eq_some_iff.mp hi).1
  refine ⟨h.ge, h.gh.put h2, h.he.put h1, ⟨h.nc, h.nc.t0, h.nc.tb.put (fun ps z => by rw [hl] at z; cases z) (.refl G)⟩, fun j t q => ?_, fun j k s' t p' hjk hj hk o1 o2 e1 e2 => ?_⟩
  · by_cases z : i = j
    · subst z
      rw [List.getElem?_set_self hlt] at q; cases q
      exact ⟨_, e, p, us, rfl, h1, h2, upd_same, r⟩
    · rw [List.getElem?_set_ne z] at q
      obtain ⟨o, eo, k⟩ := h.sl j t q
      refine ⟨o, eo, ?_⟩
      cases t with
      | un => trivial
      | ot _ _ _ => trivial
      | d x => exact k
      | own zs =>
        obtain ⟨p2, vs2, rfl, k1, k2, k3, r2⟩ := k
        have ne : p2 ≠ p := fun y => h.ne i j _ _ p z hi q rfl rfl e (by rw [← y]; exact eo)
        exact ⟨p2, vs2, rfl, k1, k2, by rw [upd_ne ne]; exact k3, r2⟩
      | okd zs =>
        obtain ⟨p2, vs2, rfl, k1, k2, k3, r2⟩ := k
        have ne : p2 ≠ p := fun y => h.ne i j _ _ p z hi q rfl rfl e (by rw [← y]; exact eo)
        exact ⟨p2, vs2, rfl, k1, k2, by rw [upd_ne ne]; exact k3, r2⟩
      | okt zs =>
        obtain ⟨p2, vs2, rfl, k1, k2, k3, r2⟩ := k
        have ne : p2 ≠ p := fun y => h.ne i j _ _ p z hi q rfl rfl e (by rw [← y]; exact eo)
        exact ⟨p2, vs2, rfl, k1, k2, by rw [upd_ne ne]; exact k3, r2⟩
      | oko zs =>
        obtain ⟨p2, vs2, rfl, k1, k2, k3⟩ := k
        have ne : p2 ≠ p := fun y => h.ne i j _ _ p z hi q rfl rfl e (by rw [← y]; exact eo)
        exact ⟨p2, vs2, rfl, k1, k2, by rw [upd_ne ne]; exact k3⟩
      | ob q C fs =>
        obtain ⟨a, dx, gs, rfl, kq, k1, k2, k3, k4, k5, k6, r2⟩ := k
        have n1 : a ≠ p := fun y => by rw [y, hl] at k5; cases k5
        have n2 : dx ≠ p := fun y => by rw [y, hl] at k6; cases k6
        exact ⟨a, dx, gs, rfl, kq, k1, k2, k3, k4, by rw [upd_ne n1]; exact k5, by rw [upd_ne n2]; exact k6, r2⟩
  · have un : ∀ (m : Nat) (s : S), (δ.set i (.okt ys))[m]? = some s → owned s = true → ∃ s2, δ[m]? = some s2 ∧ owned s2 = true := fun m s q q2 => by
      by_cases z : i = m
      · subst z; exact ⟨_, hi, rfl⟩
      · rw [List.getElem?_set_ne z] at q; exact ⟨s, q, q2⟩
    obtain ⟨s2, q1, q2⟩ := un j _ hj o1
    obtain ⟨t2, q3, q4⟩ := un k _ hk o2
    exact h.ne j k s2 t2 p' hjk q1 q3 q2 q4 e1 e2
end
end Far
namespace Far
open PySem L2

/-- what a def comes to: a value, or an exception of the class at c with fields -/
inductive Out where
  | ret (s : S) | exc (c : Addr) (fs : List (Str × D))
def XOk (K : PySem.W.Frag) (G H : Hp) (c : Addr) (fs : List (Str × D)) (cls : Value) (d : Option Addr) : Prop :=
  cls = .ref c ∧ ((fs = [] ∧ d = none) ∨ ∃ dd gs, d = some dd ∧ G dd = some (.xd gs) ∧ RpF K G fs gs ∧ fs ≠ [])
/-- a tuple that holds one list of one's own, between data -/
def OtOk (K : PySem.W.Frag) (He G H : Hp) (A xs B : List D) (v : V) : Prop := ∃ (p q : Addr) (vs us ws : List V), v = .ref p ∧ (He p = none ∧ ∃ o : Obj, H p = some (.frz o (.tup (vs ++ .ref q :: ws))) ∧ o.cls = .type "tuple" ∧ o.dict = none) ∧ RpL K G A vs ∧ RpL K G B ws ∧ He q = none ∧ G q = none ∧ H q = some (.lst us) ∧ RpL K G xs us
def OtI (K : PySem.W.Frag) (He G H : Hp) (v : V) : S → Prop
  | .ot A xs B => OtOk K He G H A xs B v | _ => True
def notOt : S → Bool
  | .ot _ _ _ => false | _ => true
theorem oti_of {K : PySem.W.Frag} {He G H : Hp} {v : V} {s : S} (h : notOt s = true) : OtI K He G H v s := by
  cases s with
  | ot A xs B => cases h
  | _ => trivial
def OKr (K : PySem.W.Frag) (He Ge H : Hp) (v : V) (σ : St) (s : S) (δ : List S) : Prop := ∃ G, OKG K He Ge H G (some v :: σ) (s :: δ) ∧ OtI K He G H v s
section
variable (K : PySem.W.Frag)
def EV (te : TE) (δ : List S) (s : S) : Prop := ∀ (He Ge H : Hp) (τo : St) (τs : List S) (σ : St), τo.length = τs.length → OK K He Ge H (τo ++ σ) (τs ++ δ) →
  ∀ Q : VK, (∀ v H', OK K He Ge H' (some v :: (τo ++ σ)) (s :: (τs ++ δ)) → Q v H') → te σ H Q
def EB (tt : TT) (δ : List S) (b : Bool) : Prop := ∀ (He Ge H : Hp) (τo : St) (τs : List S) (σ : St), τo.length = τs.length → OK K He Ge H (τo ++ σ) (τs ++ δ) →
  ∀ Q : Bool → Hp → Prop, (∀ H', OK K He Ge H' (τo ++ σ) (τs ++ δ) → Q b H') → tt σ H Q
def EA (ta : TA) (δ : List S) (xs : List D) : Prop := ∀ (He Ge H : Hp) (τo : St) (τs : List S) (σ : St), τo.length = τs.length → OK K He Ge H (τo ++ σ) (τs ++ δ) →
  ∀ Q : List V → Hp → Prop, (∀ vs H' G', OKG K He Ge H' G' (τo ++ σ) (τs ++ δ) → RpL K G' xs vs → Q vs H') → ta σ H Q
/-- a two-place operation on data -/
def RV2 (r : R2) (x y : D) (s : S) : Prop := ∀ (He Ge H G : Hp) (σ : St) (δ : List S) (v u : V), OKG K He Ge H G σ δ → Rp K G x v → Rp K G y u →
  ∀ Q : VK, (∀ z H', OK K He Ge H' (some z :: σ) (s :: δ) → Q z H') → r v u H Q
def RV1 (r : V → Hp → VK → Prop) (x : D) (s : S) : Prop := ∀ (He Ge H G : Hp) (σ : St) (δ : List S) (v : V), OKG K He Ge H G σ δ → Rp K G x v →
  ∀ Q : VK, (∀ z H', OK K He Ge H' (some z :: σ) (s :: δ) → Q z H') → r v H Q
def RVN (r : List V → Hp → VK → Prop) (xs : List D) (s : S) : Prop := ∀ (He Ge H G : Hp) (σ : St) (δ : List S) (vs : List V), OKG K He Ge H G σ δ → RpL K G xs vs →
  ∀ Q : VK, (∀ z H', OK K He Ge H' (some z :: σ) (s :: δ) → Q z H') → r vs H Q
/-- the iterator hands on the data xs, one by one, each of what stands or of what is new -/
def JIg (G : Hp) (J : It) (xs : List D) : Prop := ∀ H G1, Ex G G1 → Ex G1 H → (∀ i, i < xs.length → J.go i H) ∧ (∀ i x H', J.yld i H x H' → i < xs.length →
  ∃ G2 y, Ex H H' ∧ Ex G1 G2 ∧ Ex G2 H' ∧ Nw K H G1 H' G2 ∧ xs[i]? = some y ∧ Rp K G2 y x) ∧ ∀ i, xs.length ≤ i → J.stop i H
/-- the iterator hands on the values vs, one by one, wherever G stands -/
def JIs (G : Hp) (J : It) (vs : List V) : Prop := ∀ H, Ex G H → (∀ i, i < vs.length → J.go i H) ∧ (∀ i x H', J.yld i H x H' → H' = H ∧ (i < vs.length → vs[i]? = some x)) ∧ ∀ i, vs.length ≤ i → J.stop i H
def EI (wi : TI) (δ : List S) (xs : List D) : Prop := ∀ (He Ge H : Hp) (τo : St) (τs : List S) (σ : St), τo.length = τs.length → OK K He Ge H (τo ++ σ) (τs ++ δ) →
  ∀ R : It → Hp → Prop, (∀ J H' G', OKG K He Ge H' G' (τo ++ σ) (τs ++ δ) → JIg K G' J xs → R J H') → wi σ H R
/-- a target that takes x -/
def ET (g : TG) (δ : List S) (x : D) (δ' : List S) : Prop := ∀ (He Ge H G : Hp) (τo : St) (τs : List S) (σ : St) (v : V), τo.length = τs.length → OKG K He Ge H G (τo ++ σ) (τs ++ δ) → Rp K G x v →
  ∀ Q : St → Hp → Prop, (∀ σ', OKG K He Ge H G (τo ++ σ') (τs ++ δ') → Q σ' H) → g v σ H Q
abbrev NoS : List S → Prop := fun _ => False
/-- a statement over the slots δ: N the slots behind it, R what it hands back, B at a break, C at a continue, X what it raises -/
def SD (E : WX) (t : TS) (δ : List S) (N : List S → Prop) (R : S → List S → Prop) (B C : List S → Prop) (X : List S → Addr → List (Str × D) → Prop) : Prop := ∀ (He Ge H : Hp) (σ : St) (Dn : Ends), OK K He Ge H σ δ →
  (∀ δ' σ' H', OK K He Ge H' σ' δ' → N δ' → Dn.nx σ' H') → (∀ v s σ' δ' H', OKr K He Ge H' v σ' s δ' → R s δ' → Dn.rt v H') →
  (∀ δ' σ' H', OK K He Ge H' σ' δ' → B δ' → Dn.bk σ' H') → (∀ δ' σ' H', OK K He Ge H' σ' δ' → C δ' → Dn.ct σ' H') →
  (∀ c fs cls d G' σ' δ' H', OKG K He Ge H' G' σ' δ' → XOk K G' H' c fs cls d → X δ' c fs → E cls d σ' H') → t Dn σ H
/-- a def's promise told over data -/
def spD (R : List D → Out → Prop) : Sp := fun vs H Q E => ∃ G xs out, (Ex G H ∧ TabOk K H G) ∧ RpL K G xs vs ∧ R xs out ∧
  (∀ v s G' H', out = .ret s → Ex G G' → Ex G' H' → Ex H H' → Nc K H G H' G' → SlotOk K H G' H' s (some v) → OtI K H G' H' v s → Q v H') ∧
  (∀ c fs cls d G' H', out = .exc c fs → Ex G G' → Ex G' H' → Ex H H' → Nc K H G H' G' → XOk K G' H' c fs cls d → E cls d H')
end

section
variable {K : PySem.W.Frag} {δ : List S} {te ta tb : TE} {x y z : D} {s : S}
theorem len_append {α β : Type} {a : List α} {b : List β} {c : List α} {d : List β} (h : a.length = b.length) (i : Nat) : (b ++ d)[b.length + i]? = d[i]? ∧ (a ++ c)[b.length + i]? = c[i]? := by
  constructor
  · rw [List.getElem?_append_right (Nat.le_add_right _ _), Nat.add_sub_cancel_left]
  · rw [← h, List.getElem?_append_right (Nat.le_add_right _ _), Nat.add_sub_cancel_left]
theorem jig_of {G : Hp} {J : It} {xs : List D} {vs : List V} (r : RpL K G xs vs) (j : JIs G J vs) : JIg K G J xs := fun H G1 e1 e2 => by
  obtain ⟨j1, j2, j3⟩ := j H (e1.trans e2)
  have hl := r.length
  refine ⟨fun i hi => j1 i (by omega), fun i x H' hy hi => ?_, fun i hi => j3 i (by omega)⟩
  obtain ⟨rfl, k⟩ := j2 i x H' hy
  have ex := k (by omega)
  obtain ⟨y, ey, ry⟩ := r.getV ex
  exact ⟨G1, y, .refl _, .refl _, e2, .refl, ey, ry.mono e1⟩
theorem ev_var {i : Nat} (h : δ[i]? = some (.d x)) : EV K (tVar i) δ (.d x) := by
  intro He Ge H τo τs σ hl ⟨G, ok⟩ Q q
  obtain ⟨e1, e2⟩ := len_append (d := δ) (c := σ) hl i
  obtain ⟨o, eo, v, rfl, r⟩ := ok.sl (τs.length + i) _ (e1.trans h)
  exact ⟨v, e2.symm.trans eo, q v H ⟨G, ok.pushD r⟩⟩
theorem ev_rp {v : V} (r : ∀ G, Rp K G x v) : EV K (tC v) δ (.d x) := by
  intro He Ge H τo τs σ hl ⟨G, ok⟩ Q q
  exact q v H ⟨G, ok.pushD (r G)⟩
theorem ev_int {i : Int} : EV K (tC (.int i)) δ (.d (.int i)) := ev_rp fun _ => .int
theorem ev_bl {b : Bool} : EV K (tC (.bl b)) δ (.d (.bl b)) := ev_rp fun _ => .bl
theorem ev_non : EV K (tC .non) δ (.d .non) := ev_rp fun _ => .non
theorem ev_str {x : Str} : EV K (tC (.str x)) δ (.d (.str x)) := ev_rp fun _ => .str
theorem ev_ty {n : String} : EV K (tC (.ty n)) δ (.d (.ty n)) := ev_rp fun _ => .ty
theorem ev_cls {a : Addr} : EV K (tC (.ref a)) δ (.d (.cls a)) := ev_rp fun _ => .cls
theorem ev_is {s' : S} (h : EV K te δ s) (e : s = s') : EV K te δ s' := e ▸ h
theorem ev_frz {xs : List D} (h : EV K te δ (.own xs)) : EV K te δ (.d (.lst xs)) := by
  intro He Ge H τo τs σ hl ok Q q
  refine h He Ge H τo τs σ hl ok _ fun v H' ⟨G', ok'⟩ => ?_
  obtain ⟨G2, ok2⟩ := ok'.freeze
  exact q v H' ⟨G2, ok2⟩
theorem ev_frzK {kvs : List (Key × D)} (h : EV K te δ (.okd kvs)) : EV K te δ (.d (.dK kvs)) := by
  intro He Ge H τo τs σ hl ok Q q
  refine h He Ge H τo τs σ hl ok _ fun v H' ⟨G', ok'⟩ => ?_
  obtain ⟨G2, ok2⟩ := ok'.freezeK
  exact q v H' ⟨G2, ok2⟩
theorem ev_frzO {kvs : List (KO × KO)} (h : EV K te δ (.oko kvs)) : EV K te δ (.d (.dO kvs)) := by
  intro He Ge H τo τs σ hl ok Q q
  refine h He Ge H τo τs σ hl ok _ fun v H' ⟨G', ok'⟩ => ?_
  obtain ⟨G2, ok2⟩ := ok'.freezeO
  exact q v H' ⟨G2, ok2⟩
theorem ev_op {r : R2} (ha : EV K ta δ (.d x)) (hb : EV K tb δ (.d y)) (hr : RV2 K r x y s) : EV K (tOp r ta tb) δ s := by
  intro He Ge H τo τs σ hl ok Q q
  refine ha He Ge H τo τs σ hl ok _ fun v H1 ok1 => ?_
  refine hb He Ge H1 (some v :: τo) (.d x :: τs) σ (by simp [hl]) ok1 _ fun u H2 ok2 => ?_
  obtain ⟨G, ok2⟩ := ok2
  obtain ⟨_, e1, r1⟩ := ok2.top
  obtain ⟨_, e2, r2⟩ := ok2.pop.top
  cases e1; cases e2
  exact hr He Ge H2 G _ _ v u ok2.pop.pop r2 r1 Q q
theorem ev_un {r : V → Hp → VK → Prop} (ha : EV K ta δ (.d x)) (hr : RV1 K r x s) : EV K (tUn r ta) δ s := by
  intro He Ge H τo τs σ hl ok Q q
  refine ha He Ge H τo τs σ hl ok _ fun v H1 ⟨G, ok1⟩ => ?_
  obtain ⟨_, e1, r1⟩ := ok1.top
  cases e1
  exact hr He Ge H1 G _ _ v ok1.pop r1 Q q
theorem ea_nil : EA K tNil δ [] := by
  intro He Ge H τo τs σ hl ⟨G, ok⟩ Q q
  exact q [] H G ok .nil
theorem ea_cons {tr : TA} {xs : List D} (ha : EV K ta δ (.d x)) (hr : EA K tr δ xs) : EA K (tCons ta tr) δ (x :: xs) := by
  intro He Ge H τo τs σ hl ok Q q
  refine ha He Ge H τo τs σ hl ok _ fun v H1 ok1 => ?_
  refine hr He Ge H1 (some v :: τo) (.d x :: τs) σ (by simp [hl]) ok1 _ fun vs H2 G2 ok2 r2 => ?_
  obtain ⟨_, e1, r1⟩ := ok2.top
  cases e1
  exact q (v :: vs) H2 G2 ok2.pop (.cons r1 r2)
theorem ev_cb {r : List V → Hp → VK → Prop} {tr : TA} {xs : List D} (ha : EA K tr δ xs) (hr : RVN K r xs s) : EV K (tCB r tr) δ s := by
  intro He Ge H τo τs σ hl ok Q q
  exact ha He Ge H τo τs σ hl ok _ fun vs H1 G ok1 r1 => hr He Ge H1 G _ _ vs ok1 r1 Q q
variable {t u : TT} {a b : Bool}
theorem eb_test (h : EV K te δ (.d (.bl b))) : EB K (tTest te) δ b := by
  intro He Ge H τo τs σ hl ok Q q
  refine h He Ge H τo τs σ hl ok _ fun v H1 ⟨G, ok1⟩ => ?_
  obtain ⟨_, e1, r1⟩ := ok1.top
  cases e1; cases r1
  exact ⟨b, rfl, q H1 ⟨G, ok1.pop⟩⟩
theorem eb_B (h : EV K te δ (.d (.bl b))) : EB K (tB te) δ b := by
  intro He Ge H τo τs σ hl ok Q q
  refine h He Ge H τo τs σ hl ok _ fun v H1 ⟨G, ok1⟩ => ?_
  obtain ⟨_, e1, r1⟩ := ok1.top
  cases e1; cases r1
  exact ⟨b, rfl, q H1 ⟨G, ok1.pop⟩⟩
theorem eb_and (h1 : EB K t δ a) (h2 : a = true → EB K u δ b) : EB K (tAnd t u) δ (a && b) := by
  intro He Ge H τo τs σ hl ok Q q
  refine h1 He Ge H τo τs σ hl ok _ fun H1 ok1 => ?_
  cases a with
  | true => exact iteT (h2 rfl He Ge H1 τo τs σ hl ok1 Q q)
  | false => exact iteF (q H1 ok1)
theorem eb_or (h1 : EB K t δ a) (h2 : a = false → EB K u δ b) : EB K (tOr t u) δ (a || b) := by
  intro He Ge H τo τs σ hl ok Q q
  refine h1 He Ge H τo τs σ hl ok _ fun H1 ok1 => ?_
  cases a with
  | true => exact iteT (q H1 ok1)
  | false => exact iteF (h2 rfl He Ge H1 τo τs σ hl ok1 Q q)
theorem eb_not (h1 : EB K t δ a) : EB K (tNot t) δ (!a) := by
  intro He Ge H τo τs σ hl ok Q q
  exact h1 He Ge H τo τs σ hl ok _ fun H1 ok1 => q H1 ok1
theorem eb_is (h : EB K t δ a) (e : a = b) : EB K t δ b := e ▸ h
/-- a test whose value alone is asked in one way (short) -/
theorem eb_andF (h1 : EB K t δ false) : EB K (tAnd t u) δ false := eb_and (b := false) h1 fun z => nomatch z
theorem eb_orT (h1 : EB K t δ true) : EB K (tOr t u) δ true := eb_or (b := false) h1 fun z => nomatch z
/-- .. both ways to one thing -/
theorem ev_if1 (h : EB K t δ b) (h1 : b = true → EV K ta δ s) (h2 : b = false → EV K tb δ s) : EV K (tIf t ta tb) δ s := by
  intro He Ge H τo τs σ hl ok Q q
  refine h He Ge H τo τs σ hl ok _ fun H1 ok1 => ?_
  cases b with
  | true => exact iteT (h1 rfl He Ge H1 τo τs σ hl ok1 Q q)
  | false => exact iteF (h2 rfl He Ge H1 τo τs σ hl ok1 Q q)
/-- (a, b, ..) -/
def tTupP (t : TA) : TE := fun σ H Q => t σ H fun xs H1 => xs.length ≤ sizeLine ∧ NewT H1 xs Q
theorem ev_tup {tr : TA} {xs : List D} (h : EA K tr δ xs) (hz : xs.length ≤ sizeLine) : EV K (tTupP tr) δ (.d (.tup xs)) := by
  intro He Ge H τo τs σ hl ok Q q
  refine h He Ge H τo τs σ hl ok _ fun vs H1 G ok1 r1 => ⟨by rw [← r1.length]; exact hz, fun p o hp hc hd => ?_⟩
  exact q _ _ ⟨_, (ok1.newG hp).pushD (.tup (.inl ⟨o, upd_same, hc, hd⟩) (r1.mono (.new (ok1.gh.none hp))))⟩
theorem OKG.newOwn {He Ge H G : Hp} {σ : St} {δ : List S} {p : Addr} {xs : List D} {vs : List V} (ok : OKG K He Ge H G σ δ) (hp : H p = none) (r : RpL K G xs vs) : OKG K He Ge (upd H p (.lst vs)) G (some (.ref p) :: σ) (.own xs :: δ) := by
  refine (ok.newH hp).push ⟨p, vs, rfl, ok.he.none hp, ok.gh.none hp, upd_same, r⟩ fun _ j t p' e hj ho eσ => ?_
  cases e
  obtain ⟨o, eo, k⟩ := ok.sl j t hj
  rw [eo] at eσ
  cases eσ
  cases t with
  | un => cases ho
  | ot _ _ _ => cases ho
  | d x => cases ho
  | own ys => obtain ⟨p', vs', e, _, _, h3, _⟩ := k; cases e; rw [hp] at h3; cases h3
  | okd ys => obtain ⟨p', vs', e, _, _, h3, _⟩ := k; cases e; rw [hp] at h3; cases h3
  | okt ys => obtain ⟨p', vs', e, _, _, h3, _⟩ := k; cases e; rw [hp] at h3; cases h3
  | oko ys => obtain ⟨p', vs', e, _, _, h3⟩ := k; cases e; rw [hp] at h3; cases h3
  | ob q C fs => obtain ⟨a, dx, gs, e, _, _, _, _, _, h5, _⟩ := k; cases e; rw [hp] at h5; cases h5
theorem ev_lst {tr : TA} {xs : List D} (h : EA K tr δ xs) (hz : xs.length ≤ sizeLine) : EV K (tLst tr) δ (.own xs) := by
  intro He Ge H τo τs σ hl ok Q q
  refine h He Ge H τo τs σ hl ok _ fun vs H1 G ok1 r1 => ⟨by rw [← r1.length]; exact hz, fun p hp => ?_⟩
  exact q _ _ ⟨_, ok1.newOwn hp r1⟩
theorem ev_call {R : List D → Out → Prop} {E : XK} {tr : TA} {xs : List D} (h : EA K tr δ xs) (hr : R xs (.ret s)) : EV K (tCall (spD K R) [] E tr) δ s := by
  intro He Ge H τo τs σ hl ok Q q
  refine h He Ge H τo τs σ hl ok _ fun vs H1 G ok1 r1 => ?_
  refine ⟨G, xs, .ret s, ⟨ok1.gh, ok1.nc.tb⟩, by simpa using r1, hr, fun v s' G' H' e g1 g2 g3 nc k _ => ?_, fun c fs cls d G' H' e => nomatch e⟩
  cases e
  refine q v H' ⟨G', (ok1.grow g3 g1 g2 nc).push ?_ fun ho j t p e hj hoj eσ => ?_⟩
  · cases s with
    | un => trivial
    | ot _ _ _ => trivial
    | d x => exact k
    | own ys => obtain ⟨p, us, e, h1, h2, h3, r⟩ := k; exact ⟨p, us, e, ok1.he.none h1, h2, h3, r⟩
    | okd ys => obtain ⟨p, us, e, h1, h2, h3, r⟩ := k; exact ⟨p, us, e, ok1.he.none h1, h2, h3, r⟩
    | okt ys => obtain ⟨p, us, e, h1, h2, h3, r⟩ := k; exact ⟨p, us, e, ok1.he.none h1, h2, h3, r⟩
    | oko ys => obtain ⟨p, us, e, h1, h2, h3⟩ := k; exact ⟨p, us, e, ok1.he.none h1, h2, h3⟩
    | ob q C fs => obtain ⟨a, dx, gs, e, hq, h1, h2, h3, h4, h5, h6, r⟩ := k; exact ⟨a, dx, gs, e, hq, ok1.he.none h1, h2, ok1.he.none h3, h4, h5, h6, r⟩
  · cases e
    have hn : H1 p = none := by
      cases s with
      | un => cases ho
      | ot _ _ _ => cases ho
      | d x => cases ho
      | own ys => obtain ⟨p', us, e, h1, _⟩ := k; cases e; exact h1
      | okd ys => obtain ⟨p', us, e, h1, _⟩ := k; cases e; exact h1
      | okt ys => obtain ⟨p', us, e, h1, _⟩ := k; cases e; exact h1
      | oko ys => obtain ⟨p', us, e, h1, _⟩ := k; cases e; exact h1
      | ob q C fs => obtain ⟨a, dx, gs, e, _, h1, _⟩ := k; cases e; exact h1
    obtain ⟨o, eo, k2⟩ := ok1.sl j t hj
    rw [eo] at eσ
    cases eσ
    cases t with
    | un => cases hoj
    | ot _ _ _ => cases hoj
    | d x => cases hoj
    | own ys => obtain ⟨p', vs', e, _, _, h3, _⟩ := k2; cases e; rw [hn] at h3; cases h3
    | okd ys => obtain ⟨p', vs', e, _, _, h3, _⟩ := k2; cases e; rw [hn] at h3; cases h3
    | okt ys => obtain ⟨p', vs', e, _, _, h3, _⟩ := k2; cases e; rw [hn] at h3; cases h3
    | oko ys => obtain ⟨p', vs', e, _, _, h3⟩ := k2; cases e; rw [hn] at h3; cases h3
    | ob q C fs => obtain ⟨a, dx, gs, e, _, _, _, _, _, h5, _⟩ := k2; cases e; rw [hn] at h5; cases h5
theorem set_off {α : Type} (a b : List α) (i : Nat) (o : α) : (a ++ b).set (a.length + i) o = a ++ b.set i o := by
  rw [List.set_append_right _ _ (Nat.le_add_right _ _), Nat.add_sub_cancel_left]
theorem et_name {i : Nat} (hi : i < δ.length) : ET K (gName i) δ x (δ.set i (.d x)) := by
  intro He Ge H G τo τs σ v hl ok r Q q
  refine q _ ?_
  have k := (ok.pushD r).store (i := τs.length + i) (by rw [List.length_append]; omega)
  rw [set_off τs, ← hl, set_off τo] at k
  exact k
end
end Far
namespace Far
open PySem L2
section
variable {K : PySem.W.Frag} {δ : List S} {te ta tb : TE} {x y z : D} {s : S} {xs : List D}
theorem ei_list (h : EV K te δ (.d (.lst xs))) : EI K (iList K te) δ xs := by
  intro He Ge H τo τs σ hl ok R q
  refine h He Ge H τo τs σ hl ok _ fun v H1 ⟨G, ok1⟩ => ?_
  obtain ⟨_, e1, r1⟩ := ok1.top
  cases e1
  cases r1 with
  | lst hp r =>
    exact ⟨_, rfl, ⟨_, SqL.of (ok1.gh _ _ hp)⟩, q _ H1 G ok1.pop (jig_of r fun H e => ⟨fun i hi => ⟨_, _, SqL.of (e _ _ hp), List.getElem?_eq_getElem hi⟩, fun i x H' q => ⟨q.1, fun hi => q.2 _ (SqL.of (e _ _ hp))⟩, fun i hi => ⟨_, SqL.of (e _ _ hp), hi⟩⟩)⟩
theorem ei_tup (h : EV K te δ (.d (.tup xs))) : EI K (iTup K te) δ xs := by
  intro He Ge H τo τs σ hl ok R q
  refine h He Ge H τo τs σ hl ok _ fun v H1 ⟨G, ok1⟩ => ?_
  obtain ⟨_, e1, r1⟩ := ok1.top
  cases e1
  cases r1 with
  | tup hp r =>
    have hp := hp.t
    exact ⟨_, rfl, ⟨_, ok1.gh.t hp⟩, q _ H1 G ok1.pop (jig_of r fun H e => ⟨fun i hi => ⟨_, _, e.t hp, List.getElem?_eq_getElem hi⟩, fun i x H' q => ⟨q.1, fun hi => q.2 _ (e.t hp)⟩, fun i hi => ⟨_, e.t hp, hi⟩⟩)⟩
/-- lo, lo + 1, .. -/
def rg (lo : Int) (n : Nat) : List D := (List.range n).map fun (i : Nat) => D.int (lo + (i : Int))
def rgV (lo : Int) (n : Nat) : List V := (List.range n).map fun (i : Nat) => V.int (lo + (i : Int))
theorem rp_ints {G : Hp} {α : Type} (f : α → Int) : ∀ l : List α, RpL K G (l.map fun i => D.int (f i)) (l.map fun i => V.int (f i))
  | [] => .nil
  | _ :: r => .cons .int (rp_ints f r)
theorem jis_rng {G : Hp} {lo : Int} {n : Nat} : JIs G (Itr lo n) (rgV lo n) := fun H e =>
  ⟨fun i hi => by show i < n; simpa [rgV] using hi, fun i x H' q => ⟨q.1, fun hi => by
    have hi' : i < n := by simpa [rgV] using hi
    rw [q.2]; unfold rgV; rw [List.getElem?_map, List.getElem?_range hi']; rfl⟩, fun i hi => by show n ≤ i; simpa [rgV] using hi⟩
theorem ei_is {wi : TI} {ys : List D} (h : EI K wi δ xs) (e : xs = ys) : EI K wi δ ys := e ▸ h

end
inductive ETs (K : PySem.W.Frag) : TGs → List S → List D → List S → Prop
  | nil {δ : List S} : ETs K gNil δ [] δ
  | cons {g : TG} {gs : TGs} {δ : List S} {x : D} {xs : List D} {δ1 δ2 : List S} : ET K g δ x δ1 → ETs K gs δ1 xs δ2 → ETs K (gCons g gs) δ (x :: xs) δ2
section
variable {K : PySem.W.Frag} {δ : List S} {te ta tb : TE} {x y z : D} {s : S} {xs : List D}
theorem ets_run {gs : TGs} {δ δ' : List S} {xs : List D} (h : ETs K gs δ xs δ') : ∀ (He Ge H G : Hp) (τo : St) (τs : List S) (σ : St) (vs : List V), τo.length = τs.length → OKG K He Ge H G (τo ++ σ) (τs ++ δ) → RpL K G xs vs →
    ∀ Q : St → Hp → Prop, (∀ σ', OKG K He Ge H G (τo ++ σ') (τs ++ δ') → Q σ' H) → gs vs σ H Q := by
  induction h with
  | nil => intro He Ge H G τo τs σ vs hl ok r Q q; cases r; exact ⟨rfl, q σ ok⟩
  | cons h1 _ ih =>
    intro He Ge H G τo τs σ vs hl ok r Q q
    cases r with
    | cons r1 r2 => exact ⟨_, _, rfl, h1 He Ge H G τo τs σ _ hl ok r1 _ fun σ' ok' => ih He Ge H G τo τs σ' _ hl ok' r2 Q q⟩
theorem et_tup {n : Nat} {gs : TGs} {δ' : List S} (h : ETs K gs δ xs δ') (hn : xs.length = n) : ET K (gTup K n gs) δ (.tup xs) δ' := by
  intro He Ge H G τo τs σ v hl ok r Q q
  cases r with
  | tup hp r => exact ⟨_, _, rfl, ok.gh.t hp.t, by rw [← r.length]; exact hn, ets_run h He Ge H G τo τs σ _ hl ok r Q q⟩
theorem et_utp {n : Nat} {gs : TGs} {δ' : List S} (h : ETs K gs δ xs δ') (hn : xs.length = n) : ET K (gTup K n gs) δ (.utp xs) δ' := by
  intro He Ge H G τo τs σ v hl ok r Q q
  cases r with
  | utp hp r => exact ⟨_, _, rfl, ok.gh.t hp, by rw [← r.length]; exact hn, ets_run h He Ge H G τo τs σ _ hl ok r Q q⟩
theorem et_lst {n : Nat} {gs : TGs} {δ' : List S} (h : ETs K gs δ xs δ') (hn : xs.length = n) : ET K (gLst K n gs) δ (.lst xs) δ' := by
  intro He Ge H G τo τs σ v hl ok r Q q
  cases r with
  | lst hp r => exact ⟨_, _, rfl, SqL.of (ok.gh _ _ hp), by rw [← r.length]; exact hn, ets_run h He Ge H G τo τs σ _ hl ok r Q q⟩

theorem wipe_get {σ : St} : ∀ (vs : List Nat) (j : Nat), (wipe σ vs)[j]? = if j ∈ vs ∧ j < σ.length then some none else σ[j]?
  | [], j => by simp [wipe]
  | v :: vs, j => by
    unfold wipe
    by_cases h : v = j
    · subst h
      by_cases hl : v < σ.length
      · rw [List.getElem?_set_self (by rw [wipe_length]; exact hl)]; simp [hl]
      · rw [List.getElem?_eq_none (by rw [List.length_set, wipe_length]; omega)]
        simp [hl]
    · rw [List.getElem?_set_ne h, wipe_get vs j]
      have : j ∈ v :: vs ↔ j ∈ vs := by simp [Ne.symm h]
      simp only [this]
theorem wipe_set {σ : St} {i : Nat} {o : Option V} {vs : List Nat} (h : i ∈ vs) : wipe (σ.set i o) vs = wipe σ vs := by
  apply List.ext_getElem?
  intro j
  rw [wipe_get, wipe_get, List.length_set]
  by_cases hj : j ∈ vs ∧ j < σ.length
  · rw [if_pos hj, if_pos hj]
  · rw [if_neg hj, if_neg hj]
    by_cases e : i = j
    · subst e
      have hl : ¬ i < σ.length := fun q => hj ⟨h, q⟩
      rw [List.getElem?_eq_none (by rw [List.length_set]; omega), List.getElem?_eq_none (by omega)]
    · rw [List.getElem?_set_ne e]
theorem wipe_wipe {σ : St} {vs : List Nat} : wipe (wipe σ vs) vs = wipe σ vs := by
  apply List.ext_getElem?
  intro j
  rw [wipe_get, wipe_length]
  by_cases hj : j ∈ vs ∧ j < σ.length
  · rw [if_pos hj, wipe_get, if_pos hj]
  · rw [if_neg hj]
/-- a target that stores in vs alone -/
def GOk (g : TG) (vs : List Nat) : Prop := ∀ v σ H Q, g v σ H Q → g v σ H fun σ' H' => wipe σ' vs = wipe σ vs ∧ Q σ' H'
theorem gok_name {i : Nat} {vs : List Nat} (h : i ∈ vs) : GOk (gName i) vs := fun v σ H Q q => ⟨wipe_set h, q⟩
def GsOk (g : TGs) (vs : List Nat) : Prop := ∀ v σ H Q, g v σ H Q → g v σ H fun σ' H' => wipe σ' vs = wipe σ vs ∧ Q σ' H'
theorem gsok_nil {vs : List Nat} : GsOk gNil vs := fun v σ H Q q => ⟨q.1, rfl, q.2⟩
theorem gsok_name {i : Nat} {gs : TGs} {vs : List Nat} (h : i ∈ vs) (h2 : GsOk gs vs) : GsOk (gCons (gName i) gs) vs := fun v σ H Q ⟨a, r, e, q⟩ => ⟨a, r, e, by
  have z := h2 r (σ.set i (some a)) H Q q
  rw [wipe_set h] at z
  exact z⟩
/-- what a comprehension's block sees of the slots -/
def hideS : S → S
  | .own _ => .un | .okd _ => .un | .oko _ => .un | .okt _ => .un | .ob _ _ _ => .un | .ot _ _ _ => .un | s => s
def hide (δ : List S) (vs : List Nat) : List S := vs.foldr (fun v δ => δ.set v .un) (δ.map hideS)
theorem hide_len (δ : List S) : ∀ vs : List Nat, (hide δ vs).length = δ.length
  | [] => by simp [hide]
  | v :: vs => by show ((hide δ vs).set v .un).length = _; rw [List.length_set, hide_len δ vs]
theorem hide_get (δ : List S) : ∀ (vs : List Nat) (j : Nat) (s : S), (hide δ vs)[j]? = some s → (s = .un ∧ j < δ.length) ∨ (j ∉ vs ∧ owned s = false ∧ δ[j]? = some s)
  | [], j, s, h => by
    simp only [hide, List.foldr_nil, List.getElem?_map, Option.map_eq_some_iff] at h
    obtain ⟨t, e, rfl⟩ := h
    have hl : j < δ.length := (List.getElem?_eq_some_iff.mp e).1
    cases t with
    | un => exact .inl ⟨rfl, hl⟩
    | d x => exact .inr ⟨by simp, rfl, e⟩
    | own xs => exact .inl ⟨rfl, hl⟩
    | ot A xs B => exact .inl ⟨rfl, hl⟩
    | okd xs => exact .inl ⟨rfl, hl⟩
    | okt xs => exact .inl ⟨rfl, hl⟩
    | oko xs => exact .inl ⟨rfl, hl⟩
    | ob q C fs => exact .inl ⟨rfl, hl⟩
  | v :: vs, j, s, h => by
    have h' : ((hide δ vs).set v .un)[j]? = some s := h
    by_cases e : v = j
    · subst e
      have hl : v < (hide δ vs).length := by
        have := (List.getElem?_eq_some_iff.mp h').1
        rwa [List.length_set] at this
      rw [List.getElem?_set_self hl] at h'
      cases h'
      exact .inl ⟨rfl, by rwa [hide_len] at hl⟩
    · rw [List.getElem?_set_ne e] at h'
      rcases hide_get δ vs j s h' with z | ⟨z1, z2⟩
      · exact .inl z
      · exact .inr ⟨by simp [z1, Ne.symm e], z2⟩
/-- the block's own view stands beside the def's -/
theorem OKG.block {He Ge H G : Hp} {τo : St} {τs : List S} {σ : St} {vs : List Nat} (ok : OKG K He Ge H G (τo ++ σ) (τs ++ δ)) (hl : τo.length = τs.length) : OKG K He Ge H G ((τo ++ σ) ++ wipe σ vs) ((τs ++ (δ ++ List.replicate (σ.length - δ.length) .un)) ++ hide δ vs) := by
  have hd : δ.length ≤ σ.length := by have := ok.len; simp only [List.length_append] at this; omega
  have hL : (τo ++ σ).length = (τs ++ (δ ++ List.replicate (σ.length - δ.length) S.un)).length := by simp only [List.length_append, List.length_replicate]; omega
  have lo : ∀ (i : Nat) (s : S), i < (τo ++ σ).length → ((τs ++ (δ ++ List.replicate (σ.length - δ.length) S.un)) ++ hide δ vs)[i]? = some s → (τs ++ δ)[i]? = some s ∨ s = .un := fun i s hi h => by
    rw [List.getElem?_append_left (by rw [← hL]; exact hi), ← List.append_assoc] at h
    rcases Nat.lt_or_ge i (τs ++ δ).length with q | q
    · rw [List.getElem?_append_left q] at h; exact .inl h
    · rw [List.getElem?_append_right q] at h
      exact .inr (by
        have := List.mem_of_getElem? h
        exact List.eq_of_mem_replicate this)
  have hi : ∀ (i : Nat) (s : S), (τo ++ σ).length ≤ i → ((τs ++ (δ ++ List.replicate (σ.length - δ.length) S.un)) ++ hide δ vs)[i]? = some s → owned s = false ∧ ∃ o, ((τo ++ σ) ++ wipe σ vs)[i]? = some o ∧ SlotOk K He G H s o := fun i s q h => by
    rw [List.getElem?_append_right (by rw [← hL]; exact q), ← hL] at h
    rw [List.getElem?_append_right q]
    rcases hide_get δ vs _ s h with ⟨rfl, z⟩ | ⟨z1, z2, z3⟩
    · refine ⟨rfl, (wipe σ vs)[i - (τo ++ σ).length]'(by rw [wipe_length]; omega), List.getElem?_eq_getElem _, trivial⟩
    · obtain ⟨o, eo, k⟩ := ok.sl (τs.length + (i - (τo ++ σ).length)) s ((len_append (c := σ) (d := δ) hl _).1.trans z3)
      rw [(len_append (c := σ) (d := δ) hl _).2] at eo
      refine ⟨z2, o, ?_, k⟩
      rw [wipe_get, if_neg (fun q => z1 q.1)]; exact eo
  refine ⟨ok.ge, ok.gh, ok.he, ok.nc, fun i s h => ?_, fun i j s t p hij hi' hj o1 o2 e1 e2 => ?_⟩
  · rcases Nat.lt_or_ge i (τo ++ σ).length with q | q
    · rcases lo i s q h with z | rfl
      · obtain ⟨o, eo, k⟩ := ok.sl i s z
        exact ⟨o, by rw [List.getElem?_append_left q]; exact eo, k⟩
      · exact ⟨(τo ++ σ)[i], by rw [List.getElem?_append_left q]; exact List.getElem?_eq_getElem q, trivial⟩
    · exact (hi i s q h).2
  · rcases Nat.lt_or_ge i (τo ++ σ).length with q | q
    · rcases Nat.lt_or_ge j (τo ++ σ).length with q2 | q2
      · rw [List.getElem?_append_left q] at e1
        rw [List.getElem?_append_left q2] at e2
        rcases lo i s q hi' with z | rfl
        · rcases lo j t q2 hj with z2 | rfl
          · exact ok.ne i j s t p hij z z2 o1 o2 e1 e2
          · cases o2
        · cases o1
      · rw [(hi j t q2 hj).1] at o2; cases o2
    · rw [(hi i s q hi').1] at o1; cases o1
/-- back from the block -/
theorem OKG.unblock {He Ge H G : Hp} {α σ2 : St} {τs : List S} {n : Nat} {δ2 : List S} (ok : OKG K He Ge H G (α ++ σ2) ((τs ++ (δ ++ List.replicate n .un)) ++ δ2)) (hl : α.length = (τs ++ (δ ++ List.replicate n S.un)).length) : OKG K He Ge H G α (τs ++ δ) := by
  have lt : ∀ (i : Nat) (s : S), (τs ++ δ)[i]? = some s → i < α.length ∧ ((τs ++ (δ ++ List.replicate n S.un)) ++ δ2)[i]? = some s := fun i s h => by
    have q := (List.getElem?_eq_some_iff.mp h).1
    have q2 : i < (τs ++ (δ ++ List.replicate n S.un)).length := by simp only [List.length_append] at q ⊢; omega
    refine ⟨by rw [hl]; exact q2, ?_⟩
    rw [List.getElem?_append_left q2, ← List.append_assoc, List.getElem?_append_left q]; exact h
  refine ⟨ok.ge, ok.gh, ok.he, ok.nc, fun i s h => ?_, fun i j s t p hij hi hj o1 o2 e1 e2 => ?_⟩
  · obtain ⟨q, h2⟩ := lt i s h
    obtain ⟨o, eo, k⟩ := ok.sl i s h2
    exact ⟨o, by rwa [List.getElem?_append_left q] at eo, k⟩
  · obtain ⟨q1, h1⟩ := lt i s hi
    obtain ⟨q2, h2⟩ := lt j t hj
    exact ok.ne i j s t p hij h1 h2 o1 o2 (by rw [List.getElem?_append_left q1]; exact e1) (by rw [List.getElem?_append_left q2]; exact e2)
/-- the ground moved up: what is data now stays data -/
theorem OKG.ground {He Ge H G : Hp} {σ : St} {δ : List S} (ok : OKG K He Ge H G σ δ) : OKG K He G H G σ δ := ⟨.refl G, ok.gh, ok.he, ⟨fun _ _ z => z, ok.nc.t0.mono (fun _ _ e => e) ok.ge, ok.nc.tb⟩, ok.sl, ok.ne⟩
theorem OKG.unground {He Ge H H' G G' : Hp} {σ σ' : St} {δ δ' : List S} (ok : OKG K He Ge H G σ δ) (ok' : OKG K He G H' G' σ' δ') : OKG K He Ge H' G' σ' δ' := ⟨ok.ge.trans ok'.ge, ok'.gh, ok'.he, ⟨fun b h1 h2 => ok'.nc b h1 (ok.nc b h1 h2), ok.nc.t0, ok'.nc.tb⟩, ok'.sl, ok'.ne⟩

theorem ev_lc {α : Type} {ys : List α} {h : α → D} {p : α → Bool} {f : α → D} {wi : TI} {g : TG} {tt : TT} {vs : List Nat} (hi : EI K wi δ (ys.map h)) (hg : GOk g vs) (hz : ys.length ≤ sizeLine)
    (k : ∀ y ∈ ys, ∃ δ2, ET K g (hide δ vs) (h y) δ2 ∧ EB K tt δ2 (p y) ∧ (p y = true → EV K te δ2 (.d (f y)))) : EV K (tLc wi g tt te vs) δ (.own ((ys.filter p).map f)) := by
  intro He Ge H τo τs σ hl ok Q q
  refine hi He Ge H τo τs σ hl ok _ fun J H1 G ok1 jis => ?_
  intro Dp hD
  have okD := (ok1.newOwn (xs := []) (vs := []) hD .nil).ground
  have lus : (ys.map h).length = ys.length := List.length_map ..
  -- behind i turns: the list at Dp is what was made of the first i
  refine ⟨fun i m H2 => i + m = (ys.map h).length ∧ OK K He G H2 (some (.ref Dp) :: (τo ++ σ)) (.own (((ys.take i).filter p).map f) :: (τs ++ δ)), ⟨(ys.map h).length, by omega, G, okD⟩, fun i m H2 ⟨em, G2, ok2⟩ => ?_⟩
  obtain ⟨j1, j2, j3⟩ := jis H2 G2 ok2.ge ok2.gh
  rcases Nat.lt_or_ge i (ys.map h).length with hlt | hge
  · have hy : i < ys.length := by omega
    have ey : ys[i]? = some ys[i] := List.getElem?_eq_getElem hy
    have ex : (ys.map h)[i]? = some (h ys[i]) := by rw [List.getElem?_map, ey]; rfl
    have tk : ys.take (i + 1) = ys.take i ++ [ys[i]] := by rw [List.take_add_one, ey]; rfl
    refine .inr ⟨j1 i hlt, fun H3 => OK K He G H3 (some (.ref Dp) :: (τo ++ σ)) (.own (((ys.take (i + 1)).filter p).map f) :: (τs ++ δ)), fun H3 k3 => ⟨m - 1, by omega, by omega, k3⟩, fun x H3 hx => ?_⟩
    obtain ⟨G3, y, g1, g2, g3, g4, ey2, rv⟩ := j2 i x H3 hx hlt
    rw [ex] at ey2
    cases ey2
    replace ok2 := ok2.grow g1 g2 g3 (g4.ok ok2.nc.tb)
    obtain ⟨δ2, kt, kb, ke⟩ := k ys[i] (List.getElem_mem hy)
    have hd : δ.length ≤ σ.length := by have := ok1.len; simp only [List.length_append] at this; omega
    have hL : ((some (V.ref Dp) :: τo) ++ σ).length = ((S.own (((ys.take i).filter p).map f) :: τs) ++ (δ ++ List.replicate (σ.length - δ.length) S.un)).length := by
      simp only [List.length_append, List.length_cons, List.length_replicate]; omega
    have okB := OKG.block (vs := vs) (τo := some (.ref Dp) :: τo) (τs := .own (((ys.take i).filter p).map f) :: τs) (σ := σ) (δ := δ) ok2 (by simp [hl])
    have z := hg x (wipe σ vs) H3 _ (kt He G H3 G3 _ _ (wipe σ vs) x hL okB rv (fun σ2 H4 => tt σ2 H4 fun b H5 => if b = true then te σ2 H5 fun y H6 => ∃ acc, H6 Dp = some (.lst acc) ∧ acc.length < sizeLine ∧ OK K He G (upd H6 Dp (.lst (acc ++ [y]))) (some (.ref Dp) :: (τo ++ σ)) (.own (((ys.take (i + 1)).filter p).map f) :: (τs ++ δ)) else OK K He G H5 (some (.ref Dp) :: (τo ++ σ)) (.own (((ys.take (i + 1)).filter p).map f) :: (τs ++ δ))) fun σ2 ok3 => ?_)
    · rw [wipe_wipe] at z; exact z
    · refine kb He G H3 _ _ σ2 hL ⟨G3, ok3⟩ _ fun H4 ok4 => ?_
      cases hp : p ys[i] with
      | false =>
        refine iteF ?_
        obtain ⟨G4, ok4⟩ := ok4
        have e : ((ys.take (i + 1)).filter p).map f = ((ys.take i).filter p).map f := by rw [tk, List.filter_append]; simp [hp]
        rw [e]
        exact ⟨G4, ok4.unblock hL⟩
      | true =>
        refine iteT (ke hp He G H4 _ _ σ2 hL ok4 _ fun w H5 ⟨G5, ok5⟩ => ?_)
        have ok6 := OKG.unblock (α := some w :: ((some (.ref Dp) :: τo) ++ σ)) (σ2 := σ2) (τs := .d (f ys[i]) :: (S.own (((ys.take i).filter p).map f) :: τs)) (n := σ.length - δ.length) (δ2 := δ2) ok5 (by simp only [List.length_cons]; exact congrArg (· + 1) (by simpa using hL))
        obtain ⟨o, eo, pp, acc, e1, _, _, h3, r3⟩ := ok6.sl 1 _ rfl
        cases eo; cases e1
        obtain ⟨w', e2, rw_⟩ := ok6.top
        cases e2
        have hacc : acc.length ≤ i := by
          rw [← r3.length, List.length_map]
          exact Nat.le_trans (List.length_filter_le _ _) (by rw [List.length_take]; omega)
        refine ⟨acc, h3, by omega, G5, ?_⟩
        have e : ((ys.take (i + 1)).filter p).map f = ((ys.take i).filter p).map f ++ [f ys[i]] := by rw [tk, List.filter_append]; simp [hp]
        rw [e]
        exact (OKG.change (i := 1) ok6 rfl rfl h3 (r3.append (.cons rw_ .nil))).pop
  · refine .inl ⟨j3 i hge, ?_⟩
    have e : ys.take i = ys := List.take_of_length_le (by omega)
    rw [e] at ok2
    exact q _ H2 ⟨G2, ok1.unground ok2⟩
variable {E : WX} {N B C : List S → Prop} {R : S → List S → Prop} {X : List S → Addr → List (Str × D) → Prop} {t u : TS} {c : TT} {b : Bool}
theorem sd_next (h : N δ) : SD K E tNext δ N R B C X := fun He Ge H σ Dn ok n r bk ct xx => n δ σ H ok h
theorem sd_break (h : B δ) : SD K E tBreak δ N R B C X := fun He Ge H σ Dn ok n r bk ct xx => bk δ σ H ok h
theorem sd_seq (h : SD K E t δ (fun δ' => SD K E u δ' N R B C X) R B C X) : SD K E (tSeq t u) δ N R B C X := fun He Ge H σ Dn ok n r bk ct xx =>
  h He Ge H σ { Dn with nx := u Dn } ok (fun δ' σ' H' ok' k => k He Ge H' σ' Dn ok' n r bk ct xx) r bk ct xx
theorem ev0 {te : TE} (h : EV K te δ s) {He Ge H : Hp} {σ : St} (ok : OK K He Ge H σ δ) {Q : VK} (q : ∀ v H', OK K He Ge H' (some v :: σ) (s :: δ) → Q v H') : te σ H Q := h He Ge H [] [] σ rfl ok Q q
theorem eb0 {c : TT} (h : EB K c δ b) {He Ge H : Hp} {σ : St} (ok : OK K He Ge H σ δ) {Q : Bool → Hp → Prop} (q : ∀ H', OK K He Ge H' σ δ → Q b H') : c σ H Q := h He Ge H [] [] σ rfl ok Q q
theorem sd_set {i : Nat} (h : EV K te δ s) (hi : i < δ.length) (n : N (δ.set i s)) : SD K E (tAsg te (gName i)) δ N R B C X := fun He Ge H σ Dn ok nx r bk ct xx =>
  ev0 h ok fun v H' ⟨G', ok'⟩ => nx _ _ _ ⟨G', ok'.store hi⟩ n
theorem sd_asg {g : TG} {δ' : List S} (h : EV K te δ (.d x)) (hg : ET K g δ x δ') (n : N δ') : SD K E (tAsg te g) δ N R B C X := fun He Ge H σ Dn ok nx r bk ct xx =>
  ev0 h ok fun v H' ⟨G', ok'⟩ => by
    obtain ⟨_, e, rv⟩ := ok'.top
    cases e
    exact hg He Ge H' G' [] [] σ v rfl ok'.pop rv Dn.nx fun σ' ok2 => nx _ _ _ ⟨G', ok2⟩ n
theorem sd_if (h : EB K c δ b) (h1 : b = true → SD K E t δ N R B C X) (h2 : b = false → SD K E u δ N R B C X) : SD K E (tIfS c t u) δ N R B C X := fun He Ge H σ Dn ok nx r bk ct xx =>
  eb0 h ok fun H' ok' => by
    cases b with
    | true => exact iteT (h1 rfl He Ge H' σ Dn ok' nx r bk ct xx)
    | false => exact iteF (h2 rfl He Ge H' σ Dn ok' nx r bk ct xx)
theorem sd_ret (h : EV K te δ s) (hs : notOt s = true) (r : R s δ) : SD K E (tRet te) δ N R B C X := fun He Ge H σ Dn ok nx rt bk ct xx => ev0 h ok fun v H' ⟨G', ok'⟩ => rt v s σ δ H' ⟨G', ok', oti_of hs⟩ r
theorem sd_retN (r : R (.d .non) δ) : SD K E tRetN δ N R B C X := fun He Ge H σ Dn ⟨G, ok⟩ nx rt bk ct xx => rt .non _ σ δ H ⟨G, ok.pushD .non, trivial⟩ r
theorem sd_drop (h : EV K te δ s) (n : N δ) : SD K E (tDrop te) δ N R B C X := fun He Ge H σ Dn ok nx r bk ct xx => ev0 h ok fun v H' ⟨G', ok'⟩ => nx _ _ _ ⟨G', ok'.pop⟩ n
/-- weaker slots first -/
theorem sd_weak {δ' : List S} (w : weak δ δ') (h : SD K E t δ' N R B C X) : SD K E t δ N R B C X := fun He Ge H σ Dn ⟨G, ok⟩ nx r bk ct xx => h He Ge H σ Dn ⟨G, ok.weak w⟩ nx r bk ct xx
theorem sd_mono {N' B' C' : List S → Prop} {R' : S → List S → Prop} {X' : List S → Addr → List (Str × D) → Prop} (h : SD K E t δ N R B C X) (n : ∀ δ, N δ → N' δ) (r : ∀ s δ, R s δ → R' s δ) (b : ∀ δ, B δ → B' δ) (c : ∀ δ, C δ → C' δ) (x : ∀ δ a fs, X δ a fs → X' δ a fs) : SD K E t δ N' R' B' C' X' := fun He Ge H σ Dn ok nx rt bk ct xx =>
  h He Ge H σ Dn ok (fun δ' σ' H' k p => nx δ' σ' H' k (n _ p)) (fun v s σ' δ' H' k p => rt v s σ' δ' H' k (r _ _ p)) (fun δ' σ' H' k p => bk δ' σ' H' k (b _ p)) (fun δ' σ' H' k p => ct δ' σ' H' k (c _ p))
    (fun c fs cls d G' σ' δ' H' k k2 p => xx c fs cls d G' σ' δ' H' k k2 (x _ _ _ p))
/-- xs.append(e), xs a list of one's own in slot i -/
theorem sd_append {i : Nat} (hi : δ[i]? = some (.own xs)) (h : EV K te δ (.d x)) (hz : xs.length < sizeLine) (n : N (δ.set i (.own (xs ++ [x])))) : SD K E (tDrop (tBM K "list" rAppend (tVar i) (tCons te tNil))) δ N R B C X := by
  intro He Ge H σ Dn ok nx r bk ct xx
  obtain ⟨G, okk⟩ := id ok
  obtain ⟨o, eo, p, vs, rfl, h1, h2, h3, rv⟩ := okk.sl i _ hi
  refine ⟨_, eo, .inl ⟨rfl, _, SqL.of h3⟩, ?_⟩
  refine ev0 h ok fun v H' ⟨G', ok'⟩ => ?_
  obtain ⟨o2, eo2, p2, vs2, e2, k1, k2, k3, rv2⟩ := ok'.sl (i + 1) (.own xs) (by simpa using hi)
  have e3 : o2 = some (.ref p) := by
    have : σ[i]? = some o2 := by simpa using eo2
    rw [eo] at this
    exact (Option.some.inj this).symm
  subst e3
  cases e2
  obtain ⟨w, e4, rw_⟩ := ok'.top
  cases e4
  refine ⟨p, vs2, v, rfl, rfl, k3, by rw [← rv2.length]; exact hz, ?_⟩
  exact nx _ _ _ ⟨G', OKG.change ok'.pop hi eo k3 (rv2.append (.cons rw_ .nil))⟩ n
theorem sd_while {α : Type} {tb : TS} (I : α → List S) (W : α → Prop) (μ : α → Nat) (a0 : α) (w0 : W a0) (h0 : weak δ (I a0))
    (k : ∀ a, W a → ∃ b, EB K c (I a) b ∧ (b = true → SD K E tb (I a) (fun δ' => ∃ a', W a' ∧ μ a' < μ a ∧ weak δ' (I a')) R N (fun δ' => ∃ a', W a' ∧ μ a' < μ a ∧ weak δ' (I a')) X) ∧ (b = false → N (I a))) : SD K E (tWhile c tb) δ N R B C X := by
  intro He Ge H σ Dn ⟨G, ok⟩ nx r bk ct xx
  refine ⟨fun m σ2 H2 => ∃ a, W a ∧ m = μ a ∧ OK K He Ge H2 σ2 (I a), ⟨μ a0, a0, w0, rfl, G, ok.weak h0⟩, fun m σ2 H2 ⟨a, wa, em, ok2⟩ => ?_⟩
  obtain ⟨b, kb, kt, kf⟩ := k a wa
  refine eb0 kb ok2 fun H3 ok3 => ?_
  cases b with
  | false => exact iteF (nx _ _ _ ok3 (kf rfl))
  | true =>
    refine iteT ⟨fun σ' H' => ∃ a', W a' ∧ μ a' < μ a ∧ OK K He Ge H' σ' (I a'), fun σ' H' ⟨a', w', l, o⟩ => ⟨μ a', by omega, a', w', rfl, o⟩, ?_⟩
    refine kt rfl He Ge H3 σ2 _ ok3 ?_ r nx ?_ xx
    · exact fun δ' σ' H' ⟨G', k'⟩ ⟨a', w', l, w⟩ => ⟨a', w', l, G', k'.weak w⟩
    · exact fun δ' σ' H' ⟨G', k'⟩ ⟨a', w', l, w⟩ => ⟨a', w', l, G', k'.weak w⟩
end
def Fits (out : Out) (s : S) : Prop := out = .ret s ∨ ∃ xs, s = .own xs ∧ out = .ret (.d (.lst xs))
/-- the whole of a def's body -/
def SDef (K : PySem.W.Frag) (E : WX) (t : TS) (δ : List S) (out : Out) : Prop := SD K E t δ (fun _ => out = .ret (.d .non)) (fun s _ => Fits out s) NoS NoS (fun _ c fs => out = .exc c fs)
def slots (n : Nat) (xs : List D) : List S := xs.map .d ++ List.replicate (n - xs.length) .un
theorem ok_start {K : PySem.W.Frag} {G H : Hp} {N : List Str} {xs : List D} {vs : List V} (e : Ex G H ∧ TabOk K H G) (r : RpL K G xs vs) : OK K H G H (L2.start N vs) (slots N.length xs) := by
  refine ⟨G, .refl G, e.1, .refl H, ⟨fun _ _ z => z, e.2, e.2⟩, fun i s h => ?_, fun i j s t p hij hi hj o1 => ?_⟩
  · unfold slots at h
    unfold L2.start
    rcases Nat.lt_or_ge i xs.length with q | q
    · rw [List.getElem?_append_left (by simpa using q), List.getElem?_map] at h
      obtain ⟨x, ex, rfl⟩ := Option.map_eq_some_iff.mp h
      obtain ⟨v, ev, rv⟩ := r.get ex
      refine ⟨some v, ?_, v, rfl, rv⟩
      rw [List.getElem?_append_left (by rw [List.length_map, ← r.length]; exact q), List.getElem?_map, ev]; rfl
    · rw [List.getElem?_append_right (by simpa using q)] at h
      have hs : s = .un := List.eq_of_mem_replicate (List.mem_of_getElem? h)
      have hl := (List.getElem?_eq_some_iff.mp h).1
      rw [List.length_replicate, List.length_map] at hl
      subst hs
      refine ⟨none, ?_, trivial⟩
      rw [List.getElem?_append_right (by rw [List.length_map, ← r.length]; exact q), List.getElem?_replicate, if_pos (by rw [List.length_map, ← r.length]; exact hl)]
  · have : ∀ s ∈ slots N.length xs, owned s = false := fun s hs => by
      rcases List.mem_append.mp hs with z | z
      · obtain ⟨x, _, rfl⟩ := List.mem_map.mp z; rfl
      · rw [List.eq_of_mem_replicate z]; rfl
    rw [this s (List.mem_of_getElem? hi)] at o1; cases o1
theorem body_run {K : PySem.W.Frag} {R : List D → Out → Prop} {N : List Str} {vs : List V} {H : Hp} {Q : VK} {E : XK} {t : TS} (h : spD K R vs H Q E) (k : ∀ xs out, R xs out → SDef K (fun cls d _ H => E cls d H) t (slots N.length xs) out) : t { nx := fun _ H' => Q .non H', rt := Q } (L2.start N vs) H := by
  obtain ⟨G, xs, out, e, r, hr, q1, q2⟩ := h
  refine k xs out hr H G H _ _ (ok_start e r) (fun δ' σ' H' ⟨G', ok⟩ z => ?_) (fun v s σ' δ' H' ⟨G', ok, ot⟩ z => ?_) (fun _ _ _ _ z => z.elim) (fun _ _ _ _ z => z.elim) fun c fs cls d G' σ' δ' H' ok x z => q2 c fs cls d G' H' z ok.ge ok.gh ok.he ok.nc x
  · exact q1 .non _ G' H' z ok.ge ok.gh ok.he ok.nc ⟨.non, rfl, .non⟩ trivial
  · rcases z with z | ⟨ys, rfl, z⟩
    · exact q1 v s G' H' z ok.ge ok.gh ok.he ok.nc ok.top ot
    · obtain ⟨G2, ok2⟩ := ok.freeze
      exact q1 v _ G2 H' z ok2.ge ok2.gh ok2.he ok2.nc ok2.top trivial
section
open PySem.Spec PyProof.Rows
variable {P : Program} {w : World} {K : PySem.W.Frag} {mg : Str → Option Value} {base : Heap}
theorem spD_len {R : List D → Out → Prop} {n : Nat} (h : ∀ xs out, R xs out → xs.length = n) : ∀ vs H Q E, spD K R vs H Q E → vs.length = n := fun vs H Q E ⟨G, xs, out, e, r, hr, _⟩ => by rw [← r.length]; exact h xs out hr
theorem ok_def {x qual : Str} {st : Stmt} {f : Addr} {fd : FuncData} {N ps : List Str} {k : Nat} {R : List D → Out → Prop} {t : TS} (F : Fun K x qual st f fd) (S : FnScope N ps (defScope st)) (hl : ∀ xs out, R xs out → xs.length = ps.length)
    (hd : ∀ (cdv : Value) (A : Around) (outer : List Env) (s : Shared) (H : Hp) (E : XK), Room k (A.deeper (envOfC qual (defScope st) s.heap.objs.size f cdv)) → PSs (cxOf CX0 P w K mg base N qual (defScope st) f cdv A outer s H E).nox (defBody st) t)
    (hs : ∀ (E : WX) xs out, R xs out → SDef K E t (slots N.length xs) out) : FnOk P w K mg base CX0 (k + 1) f fd ps (spD K R) :=
  F.ok S (spD_len hl) fun cdv A outer s H vs Q E hr h => ⟨t, hd cdv A outer s H E hr, body_run h (hs _)⟩
end
end Far
namespace Far
open PySem L2
section
variable {K : PySem.W.Frag}
theorem done {He Ge H G : Hp} {σ : St} {δ : List S} {x : D} {v : V} (ok : OKG K He Ge H G σ δ) (r : Rp K G x v) : OK K He Ge H (some v :: σ) (.d x :: δ) := ⟨G, ok.pushD r⟩
theorem doneT {He Ge H G : Hp} {σ : St} {δ : List S} {xs : List D} {vs : List V} {p : Addr} {o : Obj} (ok : OKG K He Ge H G σ δ) (hp : H p = none) (hc : o.cls = .type "tuple") (hd : o.dict = none) (r : RpL K G xs vs) : OK K He Ge (upd H p (.frz o (.tup vs))) (some (.ref p) :: σ) (.d (.tup xs) :: δ) :=
  ⟨_, (ok.newG hp).pushD (.tup (.inl ⟨o, upd_same, hc, hd⟩) (r.mono (.new (ok.gh.none hp))))⟩
theorem doneL {He Ge H G : Hp} {σ : St} {δ : List S} {xs : List D} {vs : List V} {p : Addr} (ok : OKG K He Ge H G σ δ) (hp : H p = none) (r : RpL K G xs vs) : OK K He Ge (upd H p (.lst vs)) (some (.ref p) :: σ) (.own xs :: δ) :=
  ⟨G, ok.newOwn hp r⟩
theorem rv_I0 {g : Int → Int → Int} {i j : Int} : RV2 K (rI0 fun i j => .int (g i j)) (.int i) (.int j) (.d (.int (g i j))) := by
  intro He Ge H G σ δ v u ok rv ru Q q
  cases rv; cases ru
  exact ⟨i, j, rfl, rfl, q _ _ (done ok .int)⟩
theorem rv_B0 {g : Int → Int → Bool} {i j : Int} : RV2 K (rI0 fun i j => .bl (g i j)) (.int i) (.int j) (.d (.bl (g i j))) := by
  intro He Ge H G σ δ v u ok rv ru Q q
  cases rv; cases ru
  exact ⟨i, j, rfl, rfl, q _ _ (done ok .bl)⟩
theorem rv_I {C : Int → Int → Prop} {g : Int → Int → Int} {i j : Int} (h : C i j) : RV2 K (rI C fun i j => .int (g i j)) (.int i) (.int j) (.d (.int (g i j))) := by
  intro He Ge H G σ δ v u ok rv ru Q q
  cases rv; cases ru
  exact ⟨i, j, rfl, rfl, h, q _ _ (done ok .int)⟩
theorem rv1_U {g : Int → Int} {i : Int} : RV1 K (rU fun i => .int (g i)) (.int i) (.d (.int (g i))) := by
  intro He Ge H G σ δ v ok rv Q q
  cases rv
  exact ⟨i, rfl, q _ _ (done ok .int)⟩
theorem RV2.inl {r r' : R2} {x y : D} {s : S} (h : RV2 K r x y s) : RV2 K (fun a b H Q => r a b H Q ∨ r' a b H Q) x y s := fun He Ge H G σ δ v u ok rv ru Q q => .inl (h He Ge H G σ δ v u ok rv ru Q q)
theorem RV2.inr {r r' : R2} {x y : D} {s : S} (h : RV2 K r' x y s) : RV2 K (fun a b H Q => r a b H Q ∨ r' a b H Q) x y s := fun He Ge H G σ δ v u ok rv ru Q q => .inr (h He Ge H G σ δ v u ok rv ru Q q)
theorem RVN.inl {r r' : List V → Hp → VK → Prop} {xs : List D} {s : S} (h : RVN K r xs s) : RVN K (fun a H Q => r a H Q ∨ r' a H Q) xs s := fun He Ge H G σ δ v ok rv Q q => .inl (h He Ge H G σ δ v ok rv Q q)
theorem RVN.inr {r r' : List V → Hp → VK → Prop} {xs : List D} {s : S} (h : RVN K r' xs s) : RVN K (fun a H Q => r a H Q ∨ r' a H Q) xs s := fun He Ge H G σ δ v ok rv Q q => .inr (h He Ge H G σ δ v ok rv Q q)
def rAddI : R2 := rI0 fun i j => .int (i + j)
def rAddT : R2 := fun x y H Q => ∃ i j, x = .str i ∧ y = .str j ∧ i.length + j.length ≤ sizeLine ∧ Q (.str (i ++ j)) H
/-- t + u: with an empty one the other itself -/
def rCatP (K : PySem.W.Frag) : R2 := fun x y H Q => ∃ a b xs ys, x = .ref a ∧ y = .ref b ∧ SqT K H a xs ∧ SqT K H b ys ∧ xs.length + ys.length ≤ sizeLine ∧
  (xs = [] → Q (.ref b) H) ∧ (xs ≠ [] → ys = [] → Q (.ref a) H) ∧ (xs ≠ [] → ys ≠ [] → NewT H (xs ++ ys) Q)
section
open PySem.Spec PyProof.Rows
theorem op_catP {X : Cx} : OpR X (binaryOp .Add) (rCatP X.K) := by
  intro pins s σ H x y v u Q I rx ry h
  obtain ⟨a, b, xs, ys, rfl, rfl, ha, hb, hz, q0, q1, q2⟩ := h
  cases rx
  cases ry
  obtain ⟨its, r1, p1, _⟩ := I.tuple ha
  obtain ⟨its2, r2, p2, _⟩ := I.tuple hb
  by_cases hx : xs = []
  · subst hx
    cases r1
    exact cat_tup0 p1 p2 ⟨.ref b, H, I, rfl, q0 rfl⟩
  · refine HT.cat_tup p1 p2 (fun z => hx (r1.nil_iff.mp z)) (fun z => ⟨.ref a, H, I, rfl, q1 hx (r2.nil_iff.mp z)⟩) (fun z => ?_) (by rw [← r1.length, ← r2.length]; exact hz)
    refine ⟨.ref s.heap.objs.size, _, I.laid (t' := s.toks) (o := .frz _ (.tup (xs ++ ys))) (fun b ob q => Heap.get?_push_of_some _ q) (Nat.le_refl _) ⟨Heap.get?_push_size _ rfl, by rw [List.length_append]; exact hz, _, r1.append r2, IsTup.new _ _⟩, rfl, ?_⟩
    exact q2 hx (fun w => z (r2.nil_iff.mpr w)) _ _ (I.hok.fresh (Nat.le_refl _)) rfl rfl
end
def rAddU (K : PySem.W.Frag) : R2 := fun x y H Q => (rAddI x y H Q ∨ rAddT x y H Q) ∨ (rCat x y H Q ∨ rCatP K x y H Q)
theorem op_addU {X : Cx} : OpR X (binaryOp .Add) (rAddU X.K) := OpR.or (OpR.or op_add op_add_str) (OpR.or op_cat op_catP)
theorem add_int {i j : Int} : RV2 K (rAddU K) (.int i) (.int j) (.d (.int (i + j))) := .inl (.inl rv_I0)
theorem add_str {i j : Str} (h : i.length + j.length ≤ sizeLine) : RV2 K (rAddU K) (.str i) (.str j) (.d (.str (i ++ j))) := .inl (.inr (by
  intro He Ge H G σ δ v u ok rv ru Q q
  cases rv; cases ru
  exact ⟨i, j, rfl, rfl, h, q _ _ (done ok .str)⟩))
theorem add_lst {xs ys : List D} (h : xs.length + ys.length ≤ sizeLine) : RV2 K (rAddU K) (.lst xs) (.lst ys) (.own (xs ++ ys)) := .inr (.inl (by
  intro He Ge H G σ δ v u ok rv ru Q q
  cases rv with
  | lst h1 r1 =>
    cases ru with
    | lst h2 r2 => exact ⟨_, _, _, _, rfl, rfl, ok.gh _ _ h1, ok.gh _ _ h2, by rw [← r1.length, ← r2.length]; exact h, fun p hp => q _ _ (doneL ok hp (r1.append r2))⟩))
theorem add_tup {xs ys : List D} (h : xs.length + ys.length ≤ sizeLine) : RV2 K (rAddU K) (.tup xs) (.tup ys) (.d (.tup (xs ++ ys))) := .inr (.inr (by
  intro He Ge H G σ δ v u ok rv ru Q q
  cases rv with
  | tup h1 r1 =>
    cases ru with
    | tup h2 r2 =>
      refine ⟨_, _, _, _, rfl, rfl, ok.gh.t h1.t, ok.gh.t h2.t, by rw [← r1.length, ← r2.length]; exact h, fun e => ?_, fun e1 e2 => ?_, fun e1 e2 p o hp hc hd => q _ _ (doneT ok hp hc hd (r1.append r2))⟩
      · subst e; cases r1; exact q _ _ (done ok (.tup h2 r2))
      · subst e2; cases r2; rw [List.append_nil] at q; exact q _ _ (done ok (.tup h1 r1))))
theorem sub_int {i j : Int} : RV2 K (rI0 fun i j => .int (i - j)) (.int i) (.int j) (.d (.int (i - j))) := rv_I0
section
open PySem.Spec PyProof.Rows
def rRepW (K : PySem.W.Frag) : R2 := fun x y H Q => ∃ l k xs, x = .ref l ∧ y = .int k ∧ SqT K H l xs ∧ xs ≠ [] ∧ 2 ≤ k ∧ xs.length * k.toNat ≤ 1000000 ∧ k ≤ 1000000 ∧ NewT H (List.replicate k.toNat xs).flatten Q
theorem op_repW {X : Cx} : OpR X (binaryOp .Mult) (rRepW X.K) := by
  intro pins s σ H x y v u Q I rx ry h
  obtain ⟨l, k, xs, rfl, rfl, hT, hne, h1, hz, h2, q⟩ := h
  cases rx
  obtain ⟨t, rfl⟩ := ry
  obtain ⟨its, r, ⟨⟨cls, dd, data, sl⟩, ho, hc, n, hd⟩, hs⟩ := I.tuple hT
  simp only at hc hd
  subst hc hd
  have hle : its.length = xs.length := r.length.symm
  have hn : its ≠ [] := fun e => hne (by
    rw [e] at hle
    exact List.eq_nil_of_length_eq_zero hle.symm)
  have hi : its.toArray.isEmpty = false := by
    cases its with
    | nil => exact absurd rfl hn
    | cons a b => rfl
  have hsz0 : its.toArray.size = xs.length := by rw [List.size_toArray, hle]
  have hm : ((its.toArray.size : Nat) : Int) * k ≤ 1000000 := by
    rw [hsz0]
    have e : ((xs.length : Nat) : Int) * k = ((xs.length * k.toNat : Nat) : Int) := by push_cast; rw [Int.toNat_of_nonneg (by omega)]
    rw [e]; omega
  have flen : (List.replicate k.toNat its).flatten.length ≤ sizeLine := by
    rw [PyProof.Rows.lm_len_rep_flat, hle, sizeLine_eq, Nat.mul_comm]
    omega
  have c0 : (decide (k < -(2 ^ 63)) || decide (k ≥ 2 ^ 63)) = false := by
    rw [decide_eq_false (by omega), decide_eq_false (by omega)] <;> rfl
  have c1 : (its.toArray.isEmpty || k == 1) = false := by
    rw [hi, Bool.false_or]
    exact beq_eq_false_iff_ne.mpr (by omega)
  have c2 : (decide (k ≤ 0) || its.toArray.isEmpty) = false := by
    rw [hi, Bool.or_false]
    exact decide_eq_false (by omega)
  have c4 : Builtin.Tuple.tupleTooMany (((its.toArray.size : Nat) : Int) * k) = false := by
    unfold Builtin.Tuple.tupleTooMany
    rw [sizeLine_eq]
    exact decide_eq_false (by omega)
  refine wpAny_binaryOp_repeat_ref (T := "tuple") (U := "int") (by decide) ⟨_, ho, rfl⟩ (fun s' => typeIs_int s' k t) noFill_tuple_mul F.fills_int_mul F.slot_int_rmul repeat_tuple F.slot_int_index.lookup
    (call_meets F.slot_int_rmul (typeIs_int s k t) F.entry_int_rmul (F.args_int_rmul_2 _ _) (int_rmul_tuple k t l its.toArray n dd sl)
      ⟨ho, rfl, ⟨_, ho, rfl⟩, call_meets F.slot_tuple_mul ⟨_, ho, rfl⟩ F.entry_tuple_mul (F.args_tuple_mul_2 _ _) (tuple_mulW l its.toArray n dd sl k t c0 c1 c2 (by omega) c4 (by rw [size_rep, List.size_toArray]; exact flen)) ⟨ho, ?_⟩⟩)
  rw [size_rep]
  refine ⟨.ref s.heap.objs.size, _, I.laid (t' := s.toks) (o := .frz _ (.tup (List.replicate k.toNat xs).flatten)) (fun b ob q => Heap.get?_push_of_some _ q) (Nat.le_refl _) ⟨Heap.get?_push_size _ rfl, by rw [PyProof.Rows.lm_len_rep_flat, sizeLine_eq, Nat.mul_comm]; omega, _, r.rep k.toNat, IsTup.new _ _⟩, rfl, ?_⟩
  exact q _ _ (I.hok.fresh (Nat.le_refl _)) rfl rfl
open AutoSeq1 in
theorem tuple_mul1 (l : Addr) (items : Array Value) (n : Nat) (dd : Option Addr) (sl : Array (Option Value)) (u : Tok) :
    Meets (Builtin.«tuple.__mul__» ⟨[.ref l, .int 1 u], []⟩) (fun _ R s => s.heap.get? l = some { cls := .type "tuple", dict := dd, data := .seq items n, slots := sl } ∧ R (.ok (.ret (Value.ref l))) s) :=
  .of_wp fun prog w A R s h => by
    obtain ⟨hp, g, d, tk, os⟩ := s
    obtain ⟨hl, h⟩ := h
    have f1 := AutoSeq1.idx_int
    have c1 : (items.isEmpty || ((1 : Int) == 1)) = true := by simp
    wp_walk using wpAny_loadPart' hl
    exact ⟨_, rfl, h⟩
def rRep1 (K : PySem.W.Frag) : R2 := fun x y H Q => ∃ l xs, x = .ref l ∧ y = .int 1 ∧ SqT K H l xs ∧ Q x H
theorem op_rep1 {X : Cx} : OpR X (binaryOp .Mult) (rRep1 X.K) := by
  intro pins s σ H x y v u Q I rx ry h
  obtain ⟨l, xs, rfl, rfl, hT, q⟩ := h
  cases rx
  obtain ⟨t, rfl⟩ := ry
  obtain ⟨its, r, ⟨⟨cls, dd, data, sl⟩, ho, hc, n, hd⟩, hs⟩ := I.tuple hT
  simp only at hc hd
  subst hc hd
  refine wpAny_binaryOp_repeat_ref (T := "tuple") (U := "int") (by decide) ⟨_, ho, rfl⟩ (fun s' => typeIs_int s' 1 t) noFill_tuple_mul F.fills_int_mul F.slot_int_rmul repeat_tuple F.slot_int_index.lookup
    (call_meets F.slot_int_rmul (typeIs_int s 1 t) F.entry_int_rmul (F.args_int_rmul_2 _ _) (int_rmul_tuple 1 t l its.toArray n dd sl)
      ⟨ho, rfl, ⟨_, ho, rfl⟩, call_meets F.slot_tuple_mul ⟨_, ho, rfl⟩ F.entry_tuple_mul (F.args_tuple_mul_2 _ _) (tuple_mul1 l its.toArray n dd sl t) ⟨ho, ?_⟩⟩)
  exact ⟨.ref l, H, I.tok _, rfl, q⟩
end
def rMulU (K : PySem.W.Frag) : R2 := fun x y H Q => (rI CMul (fun i j => .int (i * j)) x y H Q ∨ rI CMulW (fun i j => .int (i * j)) x y H Q) ∨ (rRep x y H Q ∨ (rRepW K x y H Q ∨ rRep1 K x y H Q))
theorem op_mulU {X : Cx} : OpR X (binaryOp .Mult) (rMulU X.K) := OpR.or (OpR.or op_mul op_mulW) (OpR.or op_rep (OpR.or op_repW op_rep1))
theorem mul_int {i j : Int} (h : CMul i j) : RV2 K (rMulU K) (.int i) (.int j) (.d (.int (i * j))) := .inl (.inl (rv_I h))
theorem mul_wide {i j : Int} (h : CMulW i j) : RV2 K (rMulU K) (.int i) (.int j) (.d (.int (i * j))) := .inl (.inr (rv_I h))
theorem RpL.rep {H : Hp} {xs : List D} {vs : List V} (r : RpL K H xs vs) : ∀ k : Nat, RpL K H (List.replicate k xs).flatten (List.replicate k vs).flatten
  | 0 => .nil
  | k + 1 => by rw [List.replicate_succ, List.replicate_succ, List.flatten_cons, List.flatten_cons]; exact r.append (r.rep k)
theorem mul_lst {xs : List D} {k : Int} (h1 : -(2 ^ 63) ≤ k) (h2 : k < 2 ^ 63) (h3 : xs.length * k.toNat ≤ sizeLine) : RV2 K (rMulU K) (.lst xs) (.int k) (.own (List.replicate k.toNat xs).flatten) := .inr (.inl (by
  intro He Ge H G σ δ v u ok rv ru Q q
  cases ru
  cases rv with
  | lst hl r => exact ⟨_, k, _, rfl, rfl, ok.gh _ _ hl, h1, h2, by rw [← r.length]; exact h3, fun p hp => q _ _ (doneL ok hp (r.rep _))⟩))
theorem mul_tup {xs : List D} {k : Int} (h : xs ≠ []) (h1 : 2 ≤ k) (h2 : xs.length * k.toNat ≤ 1000000) (h3 : k ≤ 1000000) : RV2 K (rMulU K) (.tup xs) (.int k) (.d (.tup (List.replicate k.toNat xs).flatten)) := .inr (.inr (.inl (by
  intro He Ge H G σ δ v u ok rv ru Q q
  cases ru
  cases rv with
  | tup hl r => exact ⟨_, k, _, rfl, rfl, ok.gh.t hl.t, (fun e => h (by rw [e] at r; cases r; rfl)), h1, by rw [← r.length]; exact h2, h3, fun p o hp hc hd => q _ _ (doneT ok hp hc hd (r.rep _))⟩)))
theorem mul_tup1 {xs : List D} : RV2 K (rMulU K) (.tup xs) (.int 1) (.d (.tup xs)) := .inr (.inr (.inr (by
  intro He Ge H G σ δ v u ok rv ru Q q
  cases ru
  cases rv with
  | tup hl r => exact ⟨_, _, rfl, rfl, ok.gh.t hl.t, q _ _ (done ok (.tup hl r))⟩)))
theorem fdiv_int {i j : Int} (h : CDivW i j) : RV2 K (rI CDivW fun i j => .int (i / j)) (.int i) (.int j) (.d (.int (i / j))) := rv_I h
theorem mod_int {i j : Int} (h : 0 < j) : RV2 K (rI (fun _ j => 0 < j) fun i j => .int (i % j)) (.int i) (.int j) (.d (.int (i % j))) := rv_I h
theorem pow_int {i j : Int} (h : CPow i j) : RV2 K (rI CPow fun i j => .int (i ^ j.toNat)) (.int i) (.int j) (.d (.int (i ^ j.toNat))) := rv_I h
theorem neg_int {i : Int} : RV1 K (rU fun i => .int (-i)) (.int i) (.d (.int (-i))) := rv1_U
theorem lt_int {i j : Int} : RV2 K (rI0 fun i j => .bl (decide (i < j))) (.int i) (.int j) (.d (.bl (decide (i < j)))) := rv_B0
theorem le_int {i j : Int} : RV2 K (rI0 fun i j => .bl (decide (i ≤ j))) (.int i) (.int j) (.d (.bl (decide (i ≤ j)))) := rv_B0
theorem gt_int {i j : Int} : RV2 K (rI0 fun i j => .bl (decide (j < i))) (.int i) (.int j) (.d (.bl (decide (j < i)))) := rv_B0
mutual
def pd : D → PyData
  | .non => .none
  | .bl b => .bool b
  | .int i => .int i
  | .str x => .str x
  | .tup xs => .tuple (pdL xs)
  | .lst xs => .list (pdL xs)
  | .scr xs => .list (pdL xs)
  | _ => .none
def pdL : List D → List PyData
  | [] => []
  | x :: xs => pd x :: pdL xs
end
mutual
def pur : D → Bool
  | .non => true
  | .bl _ => true
  | .int _ => true
  | .str x => PyData.strOk x
  | .tup xs => purL xs
  | .lst xs => purL xs
  | .scr xs => purL xs
  | _ => false
def purL : List D → Bool
  | [] => true
  | x :: xs => pur x && purL xs
end
mutual
theorem Rp.dp {G : Hp} : ∀ {d : D} {v : V}, Rp K G d v → pur d = true → Dp K G v (pd d)
  | _, _, .non, _ => by unfold pd; exact .non
  | _, _, .bl, _ => by unfold pd; exact .bl _
  | _, _, .int, _ => by unfold pd; exact .int _
  | _, _, .str, _ => by unfold pd; exact .str _
  | _, _, .ty, h => by simp [pur] at h
  | _, _, .cls, h => by simp [pur] at h
  | _, _, .tup h r, p => by unfold pd; exact .tup h.t (RpL.dp r (by simpa [pur] using p))
  | _, _, .lst h r, p => by unfold pd; exact .lst (SqL.of h) (RpL.dp r (by simpa [pur] using p))
  | _, _, .scr h r, p => by unfold pd; exact .lst h (RpL.dp r (by simpa [pur] using p))
  | _, _, .ins _ _, h => by simp [pur] at h
  | _, _, .utp _ _, h => by simp [pur] at h
  | _, _, .dK _ _, h => by simp [pur] at h
  | _, _, .dP _ _, h => by simp [pur] at h
  | _, _, .dO _, h => by simp [pur] at h
  | _, _, .dT _ _, h => by simp [pur] at h
  | _, _, .dU _ _, h => by simp [pur] at h
theorem RpL.dp {G : Hp} : ∀ {ds : List D} {vs : List V}, RpL K G ds vs → purL ds = true → DpAll K G vs (pdL ds)
  | _, _, .nil, _ => by unfold pdL; exact .nil
  | _, _, .cons h r, p => by
    unfold purL at p
    rw [Bool.and_eq_true] at p
    unfold pdL
    exact .cons (Rp.dp h p.1) (RpL.dp r p.2)
end
def rEqU (K : PySem.W.Frag) : R2 := fun x y H Q => rEq x y H Q ∨ rEqD K x y H Q
def rNeU (K : PySem.W.Frag) : R2 := fun x y H Q => rNe x y H Q ∨ rNeD K x y H Q
theorem op_eqU {X : Cx} (hu : X.A.units + 64 < cLine) : OpR X (compareOp .Eq) (rEqU X.K) := OpR.or op_eq (op_eqD hu)
theorem op_neU {X : Cx} (hu : X.A.units + 64 < cLine) : OpR X (compareOp .NotEq) (rNeU X.K) := OpR.or op_ne (op_neD hu)
theorem eq_scal {x y : D} {v u : V} {b : Bool} (h1 : ∀ G w, Rp K G x w → w = v) (h2 : ∀ G w, Rp K G y w → w = u) (hs : scal v u = true) (hb : decide (v = u) = b) : RV2 K (rEqU K) x y (.d (.bl b)) := .inl (by
  intro He Ge H G σ δ v' u' ok rv ru Q q
  have e1 := h1 _ _ rv
  have e2 := h2 _ _ ru
  subst e1; subst e2
  exact ⟨hs, by rw [hb]; exact q _ _ (done ok .bl)⟩)
theorem ne_scal {x y : D} {v u : V} {b : Bool} (h1 : ∀ G w, Rp K G x w → w = v) (h2 : ∀ G w, Rp K G y w → w = u) (hs : scal v u = true) (hb : (!decide (v = u)) = b) : RV2 K (rNeU K) x y (.d (.bl b)) := .inl (by
  intro He Ge H G σ δ v' u' ok rv ru Q q
  have e1 := h1 _ _ rv
  have e2 := h2 _ _ ru
  subst e1; subst e2
  exact ⟨hs, by rw [hb]; exact q _ _ (done ok .bl)⟩)
theorem rp_int_eq {i : Int} : ∀ G w, Rp K G (.int i) w → w = .int i := fun _ _ h => by cases h; rfl
theorem rp_str_eq {i : Str} : ∀ G w, Rp K G (.str i) w → w = .str i := fun _ _ h => by cases h; rfl
theorem rp_bl_eq {i : Bool} : ∀ G w, Rp K G (.bl i) w → w = .bl i := fun _ _ h => by cases h; rfl
theorem rp_non_eq : ∀ G w, Rp K G .non w → w = .non := fun _ _ h => by cases h; rfl
theorem dec_i {i j : Int} : decide (V.int i = V.int j) = decide (i = j) := by simp
theorem dec_s {i j : Str} : decide (V.str i = V.str j) = decide (i = j) := by simp
theorem dec_b {i j : Bool} : decide (V.bl i = V.bl j) = decide (i = j) := by simp
theorem eq_int {i j : Int} : RV2 K (rEqU K) (.int i) (.int j) (.d (.bl (decide (i = j)))) := eq_scal rp_int_eq rp_int_eq rfl dec_i
theorem eq_str {i j : Str} : RV2 K (rEqU K) (.str i) (.str j) (.d (.bl (decide (i = j)))) := eq_scal rp_str_eq rp_str_eq rfl dec_s
theorem eq_bl {i j : Bool} : RV2 K (rEqU K) (.bl i) (.bl j) (.d (.bl (decide (i = j)))) := eq_scal rp_bl_eq rp_bl_eq rfl dec_b
theorem eq_int_non {i : Int} : RV2 K (rEqU K) (.int i) .non (.d (.bl false)) := eq_scal rp_int_eq rp_non_eq rfl (by simp)
theorem eq_non_int {i : Int} : RV2 K (rEqU K) .non (.int i) (.d (.bl false)) := eq_scal rp_non_eq rp_int_eq rfl (by simp)
theorem eq_non : RV2 K (rEqU K) .non .non (.d (.bl true)) := by
  refine .inr ?_
  intro He Ge H G σ δ v u ok rv ru Q q
  cases rv; cases ru
  exact ⟨.none, .none, .non, .non, rfl, rfl, q _ _ (done ok .bl)⟩
theorem ne_int {i j : Int} : RV2 K (rNeU K) (.int i) (.int j) (.d (.bl (!decide (i = j)))) := ne_scal rp_int_eq rp_int_eq rfl (by rw [dec_i])
theorem ne_str {i j : Str} : RV2 K (rNeU K) (.str i) (.str j) (.d (.bl (!decide (i = j)))) := ne_scal rp_str_eq rp_str_eq rfl (by rw [dec_s])
theorem ne_bl {i j : Bool} : RV2 K (rNeU K) (.bl i) (.bl j) (.d (.bl (!decide (i = j)))) := ne_scal rp_bl_eq rp_bl_eq rfl (by rw [dec_b])
theorem ne_int_non {i : Int} : RV2 K (rNeU K) (.int i) .non (.d (.bl true)) := ne_scal rp_int_eq rp_non_eq rfl (by simp)
theorem ne_non_int {i : Int} : RV2 K (rNeU K) .non (.int i) (.d (.bl true)) := ne_scal rp_non_eq rp_int_eq rfl (by simp)
theorem ne_non : RV2 K (rNeU K) .non .non (.d (.bl false)) := by
  refine .inr ?_
  intro He Ge H G σ δ v u ok rv ru Q q
  cases rv; cases ru
  exact ⟨.none, .none, .non, .non, rfl, rfl, q _ _ (done ok .bl)⟩
theorem eq_dat {x y : D} (p1 : pur x = true) (p2 : pur y = true) (h1 : SeqAt.shaped (pd x) = true) (h2 : SeqAt.shaped (pd y) = true) : RV2 K (rEqU K) x y (.d (.bl (PyData.eqv (pd x) (pd y)))) := .inr (by
  intro He Ge H G σ δ v u ok rv ru Q q
  exact ⟨_, _, (rv.mono ok.gh).dp p1, (ru.mono ok.gh).dp p2, h1, h2, q _ _ (done ok .bl)⟩)
theorem ne_dat {x y : D} (p1 : pur x = true) (p2 : pur y = true) (h1 : SeqAt.shaped (pd x) = true) (h2 : SeqAt.shaped (pd y) = true) : RV2 K (rNeU K) x y (.d (.bl (!PyData.eqv (pd x) (pd y)))) := .inr (by
  intro He Ge H G σ δ v u ok rv ru Q q
  exact ⟨_, _, (rv.mono ok.gh).dp p1, (ru.mono ok.gh).dp p2, h1, h2, q _ _ (done ok .bl)⟩)
def rIsN : R2 := fun x y H Q => y = .non ∧ Q (.bl (decide (x = .non))) H
def rNotN : R2 := fun x y H Q => y = .non ∧ Q (.bl (!decide (x = .non))) H
theorem op_isN1 {X : Cx} : OpR X (compareOp .Is) rIsN := op_isN
theorem op_notN1 {X : Cx} : OpR X (compareOp .IsNot) rNotN := op_notN
def isNon : D → Bool
  | .non => true | _ => false
theorem Rp.non_iff {G : Hp} {x : D} {v : V} (h : Rp K G x v) : decide (v = .non) = isNon x := by cases h <;> simp [isNon]
theorem is_non {x : D} : RV2 K rIsN x .non (.d (.bl (isNon x))) := by
  intro He Ge H G σ δ v u ok rv ru Q q
  cases ru
  exact ⟨rfl, by rw [rv.non_iff]; exact q _ _ (done ok .bl)⟩
theorem not_non {x : D} : RV2 K rNotN x .non (.d (.bl (!isNon x))) := by
  intro He Ge H G σ δ v u ok rv ru Q q
  cases ru
  exact ⟨rfl, by rw [rv.non_iff]; exact q _ _ (done ok .bl)⟩
def tTru (K : PySem.W.Frag) (ta : TE) : TT := fun σ H Q => ta σ H fun x H' => ∃ k, TruV K x H' k ∧ Q k H'
variable {δ : List S} {te ta tb : TE} {x y : D} {s : S}
/-- a value's truth -/
inductive TrD : D → Bool → Prop
  | non : TrD .non false
  | bl (b : Bool) : TrD (.bl b) b
  | int (i : Int) : TrD (.int i) (i != 0)
  | str (x : Str) (h : x.length ≤ sizeLine) : TrD (.str x) ((x.length : Int) != 0)
  | lst (xs : List D) : TrD (.lst xs) (!xs.isEmpty)
  | tup (xs : List D) : TrD (.tup xs) (!xs.isEmpty)
theorem RpL.isEmpty {G : Hp} {xs : List D} {vs : List V} (r : RpL K G xs vs) : vs.isEmpty = xs.isEmpty := by cases r <;> rfl
theorem TrD.to {b : Bool} (h : TrD x b) {G H : Hp} {v : V} (e : Ex G H) (r : Rp K G x v) : TruV K v H b := by
  cases h with
  | non => cases r; rfl
  | bl => cases r; rfl
  | int => cases r; rfl
  | str _ h => cases r; exact ⟨h, rfl⟩
  | lst xs => cases r with | lst h r => exact .inl ⟨_, SqL.of (e _ _ h), by rw [r.isEmpty]⟩
  | tup xs => cases r with | tup h r => exact .inr (.inl ⟨_, e.t h.t, by rw [r.isEmpty]⟩)
theorem eb_tru {b : Bool} (h : EV K te δ (.d x)) (t : TrD x b) : EB K (tTru K te) δ b := by
  intro He Ge H τo τs σ hl ok Q q
  refine h He Ge H τo τs σ hl ok _ fun v H1 ⟨G, ok1⟩ => ?_
  obtain ⟨_, e1, r1⟩ := ok1.top
  cases e1
  exact ⟨b, t.to ok1.gh r1, q H1 ⟨G, ok1.pop⟩⟩
theorem ev_orT {b : Bool} {s2 : S} (h : EV K ta δ (.d x)) (t : TrD x b) (h2 : b = false → EV K tb δ s2) : EV K (tOrT K ta tb) δ (if b = true then .d x else s2) := by
  intro He Ge H τo τs σ hl ok Q q
  refine h He Ge H τo τs σ hl ok _ fun v H1 ⟨G, ok1⟩ => ?_
  obtain ⟨_, e1, r1⟩ := ok1.top
  cases e1
  refine ⟨b, t.to ok1.gh r1, ?_⟩
  cases b with
  | true => exact iteT (q v H1 ⟨G, ok1⟩)
  | false => exact iteF (h2 rfl He Ge H1 τo τs σ hl ⟨G, ok1.pop⟩ Q q)
theorem ev_andT {b : Bool} {s2 : S} (h : EV K ta δ (.d x)) (t : TrD x b) (h2 : b = true → EV K tb δ s2) : EV K (tAndT K ta tb) δ (if b = true then s2 else .d x) := by
  intro He Ge H τo τs σ hl ok Q q
  refine h He Ge H τo τs σ hl ok _ fun v H1 ⟨G, ok1⟩ => ?_
  obtain ⟨_, e1, r1⟩ := ok1.top
  cases e1
  refine ⟨b, t.to ok1.gh r1, ?_⟩
  cases b with
  | true => exact iteT (h2 rfl He Ge H1 τo τs σ hl ⟨G, ok1.pop⟩ Q q)
  | false => exact iteF (q v H1 ⟨G, ok1⟩)
theorem ev_notT {b : Bool} (h : EV K ta δ (.d x)) (t : TrD x b) : EV K (tNotT K ta) δ (.d (.bl (!b))) := by
  intro He Ge H τo τs σ hl ok Q q
  refine h He Ge H τo τs σ hl ok _ fun v H1 ⟨G, ok1⟩ => ?_
  obtain ⟨_, e1, r1⟩ := ok1.top
  cases e1
  exact ⟨b, t.to ok1.gh r1, q _ H1 ⟨G, ok1.pop.pushD .bl⟩⟩
theorem atI_len {α β : Type} {xs : List α} {vs : List β} {i : Int} {v : α} (hl : xs.length = vs.length) (h : atI xs i = some v) : ∃ j : Nat, ixN vs.length i = some j ∧ xs[j]? = some v := by
  unfold atI at h
  rw [hl] at h
  cases e : ixN vs.length i with
  | none => rw [e] at h; cases h
  | some j => rw [e] at h; exact ⟨j, rfl, h⟩
theorem RpL.atI {G : Hp} {xs : List D} {vs : List V} {i : Int} {x : D} (r : RpL K G xs vs) (h : L2.atI xs i = some x) : ∃ v, L2.atI vs i = some v ∧ Rp K G x v := by
  obtain ⟨j, e1, e2⟩ := atI_len r.length h
  obtain ⟨v, e3, rv⟩ := r.get e2
  exact ⟨v, by unfold L2.atI; rw [e1]; exact e3, rv⟩
theorem ix_lst {xs : List D} {i : Int} (h : L2.atI xs i = some x) : RV2 K (rIx K) (.lst xs) (.int i) (.d x) := by
  intro He Ge H G σ δ v u ok rv ru Q q
  cases ru
  cases rv with
  | lst hl r =>
    obtain ⟨w, e, rw_⟩ := r.atI h
    exact .inl ⟨_, _, i, w, rfl, rfl, SqL.of (ok.gh _ _ hl), e, q _ _ (done ok rw_)⟩
theorem ix_scr {xs : List D} {i : Int} (h : L2.atI xs i = some x) : RV2 K (rIx K) (.scr xs) (.int i) (.d x) := by
  intro He Ge H G σ δ v u ok rv ru Q q
  cases ru
  cases rv with
  | scr hl r =>
    obtain ⟨w, e, rw_⟩ := r.atI h
    exact .inl ⟨_, _, i, w, rfl, rfl, ok.gh.l hl, e, q _ _ (done ok rw_)⟩
theorem ix_tup {xs : List D} {i : Int} (h : L2.atI xs i = some x) : RV2 K (rIx K) (.tup xs) (.int i) (.d x) := by
  intro He Ge H G σ δ v u ok rv ru Q q
  cases ru
  cases rv with
  | tup hl r =>
    obtain ⟨w, e, rw_⟩ := r.atI h
    exact .inr (.inl ⟨_, _, i, w, rfl, rfl, ok.gh.t hl.t, e, q _ _ (done ok rw_)⟩)
theorem ix_str {z : Str} {i : Int} {c : Nat} (hz : z.length ≤ sizeLine) (h : L2.atI z.cps.toList i = some c) : RV2 K (rIx K) (.str z) (.int i) (.d (.str ⟨#[c]⟩)) := by
  intro He Ge H G σ δ v u ok rv ru Q q
  cases ru; cases rv
  exact .inr (.inr ⟨z, i, c, rfl, rfl, hz, h, q _ _ (done ok .str)⟩)
/-- len -/
theorem len_lst {xs : List D} : RVN K (fun vs H Q => ∃ x n, vs = [x] ∧ LenV K x H n ∧ Q (.int n) H) [.lst xs] (.d (.int xs.length)) := by
  intro He Ge H G σ δ vs ok r Q q
  cases r with
  | cons r0 r2 =>
    cases r2
    cases r0 with
    | lst h r => exact ⟨_, xs.length, rfl, .inl ⟨_, SqL.of (ok.gh _ _ h), r.length⟩, q _ _ (done ok .int)⟩
theorem len_scr {xs : List D} : RVN K (fun vs H Q => ∃ x n, vs = [x] ∧ LenV K x H n ∧ Q (.int n) H) [.scr xs] (.d (.int xs.length)) := by
  intro He Ge H G σ δ vs ok r Q q
  cases r with
  | cons r0 r2 =>
    cases r2
    cases r0 with
    | scr h r => exact ⟨_, xs.length, rfl, .inl ⟨_, ok.gh.l h, r.length⟩, q _ _ (done ok .int)⟩
theorem len_tup {xs : List D} : RVN K (fun vs H Q => ∃ x n, vs = [x] ∧ LenV K x H n ∧ Q (.int n) H) [.tup xs] (.d (.int xs.length)) := by
  intro He Ge H G σ δ vs ok r Q q
  cases r with
  | cons r0 r2 =>
    cases r2
    cases r0 with
    | tup h r => exact ⟨_, xs.length, rfl, .inr ⟨_, ok.gh.t h.t, r.length⟩, q _ _ (done ok .int)⟩
theorem len_str {z : Str} (hz : z.length ≤ sizeLine) : RVN K (fun vs H Q => ∃ x n, vs = [x] ∧ LenV K x H n ∧ Q (.int n) H) [.str z] (.d (.int z.length)) := by
  intro He Ge H G σ δ vs ok r Q q
  cases r with
  | cons r0 r2 => cases r2; cases r0; exact ⟨_, z.length, rfl, ⟨hz, rfl⟩, q _ _ (done ok .int)⟩
theorem min2 {i j : Int} : RVN K (fun xs H Q => ∃ i j, xs = [.int i, .int j] ∧ Q (.int (if j < i then j else i)) H) [.int i, .int j] (.d (.int (min i j))) := by
  intro He Ge H G σ δ vs ok r Q q
  cases r with
  | cons r0 r2 =>
    cases r0
    cases r2 with
    | cons r0 r2 =>
      cases r0; cases r2
      have e : (if j < i then j else i) = min i j := by split <;> omega
      exact ⟨i, j, rfl, by rw [e]; exact q _ _ (done ok .int)⟩
theorem max2 {i j : Int} : RVN K (fun xs H Q => ∃ i j, xs = [.int i, .int j] ∧ Q (.int (if j > i then j else i)) H) [.int i, .int j] (.d (.int (max i j))) := by
  intro He Ge H G σ δ vs ok r Q q
  cases r with
  | cons r0 r2 =>
    cases r0
    cases r2 with
    | cons r0 r2 =>
      cases r0; cases r2
      have e : (if j > i then j else i) = max i j := by split <;> omega
      exact ⟨i, j, rfl, by rw [e]; exact q _ _ (done ok .int)⟩
theorem all_bls {bs : List Bool} : RVN K (rAll K) [.lst (bs.map .bl)] (.d (.bl (bs.all id))) := by
  intro He Ge H G σ δ vs ok r Q q
  cases r with
  | cons r0 r2 =>
    cases r2
    cases r0 with
    | lst h r =>
      have e : ∀ {bs : List Bool} {vs : List V}, RpL K G (bs.map .bl) vs → vs = bs.map V.bl := by
        intro bs
        induction bs with
        | nil => intro vs r; cases r; rfl
        | cons b bs ih => intro vs r; cases r with | cons r0 r => cases r0; rw [ih r]; rfl
      have := e r
      subst this
      exact ⟨_, bs, rfl, SqL.of (ok.gh _ _ h), q _ _ (done ok .bl)⟩
def tyN : D → String
  | .non => "NoneType" | .bl _ => "bool" | .int _ => "int" | .str _ => "str" | .tup _ => "tuple" | .utp _ => "object" | .lst _ => "list" | .scr _ => "list" | .ty _ => "type" | .cls _ => "type" | .ins _ _ => "object" | .dK _ => "dict" | .dP _ => "dict" | .dO _ => "dict" | .dT _ => "dict" | .dU _ => "dict" | .exc _ _ => "object" | .lam _ _ _ _ _ => "function"
def known : D → Bool
  | .non => true | .bl _ => true | .int _ => true | .str _ => true | .tup _ => true | .lst _ => true | .dK _ => true | .dP _ => true | .dO _ => true | .dT _ => true | .dU _ => true | _ => false
def isTy (x : D) (n : String) : Bool := (kitB (tyN x) n).getD false
/-- a value's type, dicts of this layer among them -/
inductive TyY (K : PySem.W.Frag) (H : Hp) : V → Value → Prop
  | x {v : V} {t : Value} (h : TyX K H v t) : TyY K H v t
  | dO {a : Addr} {ob : Obj} {kvs : List (KO × KO)} (e : H a = some (DO a ob kvs)) : TyY K H (.ref a) (.type "dict")
  | dU {a : Addr} {og : Obj × List (List KO × Addr × V)} (e : H a = some (DT a og)) : TyY K H (.ref a) (.type "dict")
  | dT {a : Addr} {od : Obj} {og : Obj × List (List KO × Addr × V)} (e : H a = some (.frz od (DT a og))) : TyY K H (.ref a) (.type "dict")
theorem kit_of2 {X : Cx} {pins : List (Addr × Obj)} {σ : L2.St} {H : Hp} {s : Shared} {x : V} {u t : Value} (I : Inv X pins σ H s) (rx : RelV x u) (ty : TyY X.K H x t) : ∃ P : Heap → Prop, PySem.W.KitX X.K u t P ∧ P s.heap ∧ u ≠ .builtin "__main__.__loader__#opaque" := by
  cases ty with
  | x h => exact kit_of I rx h
  | @dO a ob kvs e =>
    cases (show u = Value.ref a from rx)
    obtain ⟨⟨_, _, _, vs, _, dd⟩, _⟩ := (show ObjOk X.prog X.w H s.heap a (DO a ob kvs) from I.hok a _ e)
    obtain ⟨o, es, ep, h1, h2, _⟩ := dd X.prog X.w
    exact ⟨_, PySem.W.kitx_dict, ⟨o, h1, h2.1⟩, fun z => nomatch z⟩
  | @dU a og e =>
    cases (show u = Value.ref a from rx)
    obtain ⟨⟨h1, _, _, xs, _, es, ep, h2, _⟩, _⟩ := (show ObjOk X.prog X.w H s.heap a (DT a og) from I.hok a _ e)
    exact ⟨_, PySem.W.kitx_dict, ⟨_, h1, h2.1⟩, fun z => nomatch z⟩
  | @dT a od og e =>
    cases (show u = Value.ref a from rx)
    obtain ⟨_, ⟨h1, _, _, xs, _, es, ep, h2, _⟩, _⟩ := (show ObjOk X.prog X.w H s.heap a (.frz od (DT a og)) from I.hok a _ e)
    exact ⟨_, PySem.W.kitx_dict, ⟨_, h1, h2.1⟩, fun z => nomatch z⟩
def rIsi2 (K : PySem.W.Frag) : List V → Hp → VK → Prop := fun xs H Q => ∃ (x c : V) (t u : Value) (b : Bool), xs = [x, c] ∧ ClsV c u ∧ TyY K H x t ∧ PySem.W.kitOne K t u = some b ∧ Q (.bl b) H
theorem call_isi2 {X : Cx} : CallR X (.builtin "isinstance") (rIsi2 X.K) := by
  intro pins s σ H xs us Q I r h
  obtain ⟨x, c, t, u, b, rfl, k, ty, e, q⟩ := h
  obtain ⟨u1, u2, rfl, r1, r2⟩ := vals2 r
  have e2 := k.eq r2
  subst e2
  obtain ⟨P, Z, p, hx⟩ := kit_of2 I r1 ty
  exact PySem.W.kia_one Z I.kIn p e hx fun tk => ⟨.bl b, H, I.tok tk, rfl, q⟩
theorem known_ty {G H : Hp} {v : V} (hk : known x = true) (e : Ex G H) (r : Rp K G x v) : TyY K H v (.type (tyN x)) := by
  cases r with
  | non => exact .x (.base .non)
  | bl => exact .x (.base (.bl _))
  | int => exact .x (.base (.int _))
  | str => exact .x (.base (.str _))
  | tup h r =>
    rcases h.t with (h | ⟨o, h⟩) | ⟨o, its, n, h1, h2, _⟩
    · exact .x (.base (.tup (e _ _ h)))
    · exact .x (.fTuple (e _ _ h))
    · exact .x (.kTuple h1 h2)
  | lst h r => exact .x (.base (.lst (e _ _ h)))
  | dK h r => exact .x (.base (.dK (e _ _ h)))
  | dP h r => exact .x (.fDict (e _ _ h))
  | dO h => exact .dO (e _ _ h)
  | dT h r => exact .dT (e _ _ h)
  | dU h r => exact .dU (e _ _ h)
  | _ => simp [known] at hk
end
end Far
namespace Far
open PySem L2 PyProof.Rows
section
variable {X : Cx}
theorem PI.or {tg l : Expr} {a b : TI} (h : PI X tg l a) (h' : PI X tg l b) : PI X tg l (fun σ H R => a σ H R ∨ b σ H R) := ⟨fun pins s σ H R I q => q.elim (h.run pins s σ H R I) (h'.run pins s σ H R I)⟩
theorem PG.or {tg : Expr} {a b : TG} (h : PG X tg a) (h' : PG X tg b) : PG X tg (fun v σ H Q => a v σ H Q ∨ b v σ H Q) := ⟨fun pins s σ H v u Q I r q => q.elim (h.run pins s σ H v u Q I r) (h'.run pins s σ H v u Q I r)⟩
def iSeq (K : PySem.W.Frag) (te : TE) : TI := fun σ H R => iList K te σ H R ∨ iTup K te σ H R
theorem pi_seq {tg l : Expr} {te : TE} (h : PE X l te) : PI X tg l (iSeq X.K te) := PI.or (pi_list h) (pi_tup h)
def gSeq (K : PySem.W.Frag) (n : Nat) (gs : TGs) : TG := fun v σ H Q => gTup K n gs v σ H Q ∨ gLst K n gs v σ H Q
theorem pg_seq {es : List Expr} {k : Nat} {pos : Pos} {t : TGs} {n : Nat} (hc : X.calm = true) (h : PGs X es t) (hn : (assignEach es X.env).length = n := by rfl) (hst : (assignEach es X.env).findIdx? (·.1) = none := by rfl) : PG X (.Tuple es k pos) (gSeq X.K n t) :=
  PG.or (pg_tup hc h hn hst) (pg_lst hc h hn hst)
def rTupU (K : PySem.W.Frag) : List V → Hp → VK → Prop := fun xs H Q => ∃ p ys, xs = [.ref p] ∧ ((SqL K H p ys ∧ NewT H ys Q) ∨ (SqT K H p ys ∧ Q (.ref p) H))
section
open PySem.Spec PyProof.Rows
theorem call_tupleU {X : Cx} : CallR X (.type "tuple") (rTupU X.K) := by
  intro pins s σ H xs us Q I r h
  obtain ⟨p, ys, rfl, h⟩ := h
  obtain ⟨u, rfl, rx⟩ := vals1 r
  cases rx
  rcases h with ⟨hq, q⟩ | ⟨hq, q⟩
  · obtain ⟨its, r', pl, hz⟩ := I.list hq
    have hlen := r'.length
    refine call_tuple_list pl.isList (fun h' kp => ?_) (by simp only [List.size_toArray] <;> omega)
    have I1 : Inv X pins σ H { s with heap := h' } := I.kept (t' := s.toks) kp
    refine ⟨.ref h'.objs.size, _, I1.laid (t' := s.toks) (o := .frz _ (.tup ys)) (fun b o e => Heap.get?_push_of_some _ e) (Nat.le_refl _) ⟨Heap.get?_push_size _ rfl, hz, its, r', IsTup.new _ _⟩, rfl, ?_⟩
    exact q _ _ (I1.hok.fresh (Nat.le_refl _)) rfl rfl
  · obtain ⟨its, r', pl, hz⟩ := I.tuple hq
    exact call_tuple_same pl ⟨.ref p, H, I, rfl, q⟩
end
abbrev rLenU (K : PySem.W.Frag) : List V → Hp → VK → Prop := fun xs H Q => ∃ x n, xs = [x] ∧ LenV K x H n ∧ Q (.int n) H
abbrev rMx2 : List V → Hp → VK → Prop := fun xs H Q => ∃ i j, xs = [.int i, .int j] ∧ Q (.int (if j > i then j else i)) H
abbrev rMn2 : List V → Hp → VK → Prop := fun xs H Q => ∃ i j, xs = [.int i, .int j] ∧ Q (.int (if j < i then j else i)) H
/-- t[lo:hi]: the whole of it is t itself -/
def rSlP (K : PySem.W.Frag) : V → Option Int → Option Int → Hp → VK → Prop := fun x lo hi H Q => ∃ a xs, x = .ref a ∧ SqT K H a xs ∧
  (HT.sIx xs.length 0 lo = 0 ∧ HT.sIx xs.length xs.length hi = xs.length → Q (.ref a) H) ∧ (¬ (HT.sIx xs.length 0 lo = 0 ∧ HT.sIx xs.length xs.length hi = xs.length) → NewT H (cutV xs lo hi) Q)
section
open PySem.Spec PyProof.Rows
theorem sl_tupP {X : Cx} : SlR X (rSlP X.K) := by
  intro pins s σ H x v vl vu lo hi sl Q I rx hs pl pu h
  obtain ⟨a, xs, rfl, hx, q1, q2⟩ := h
  cases rx
  obtain ⟨its, r, ht, hz⟩ := I.tuple hx
  have hlen : its.toArray.size = xs.length := by rw [List.size_toArray]; exact r.length.symm
  refine ⟨"tuple", _, PyProof.Rows.slot_tuple_getitem.lookup, ht.typeIs, ?_⟩
  by_cases hw : HT.sIx xs.length 0 lo = 0 ∧ HT.sIx xs.length xs.length hi = xs.length
  · exact getItem_tuple_whole ht hs pl pu (by rw [hlen]; exact hw) ⟨.ref a, H, I, rfl, q1 hw⟩
  · refine HT.getItem_tuple_cut ht hs pl pu (by rw [hlen]; exact hw) ?_ (by rw [hlen]; exact hz)
    rw [hlen]
    refine ⟨.ref s.heap.objs.size, _, I.laid (t' := s.toks) (o := .frz _ (.tup (cutV xs lo hi))) (fun b ob q => Heap.get?_push_of_some _ q) (Nat.le_refl _) ⟨Heap.get?_push_size _ rfl, Nat.le_trans (cutV_length xs lo hi) hz, _, (r.drop (HT.sIx xs.length 0 lo)).take (HT.sIx xs.length xs.length hi - HT.sIx xs.length 0 lo), IsTup.new _ _⟩, rfl, ?_⟩
    exact q2 hw _ _ (I.hok.fresh (Nat.le_refl _)) rfl rfl
end
def rSlU (K : PySem.W.Frag) : V → Option Int → Option Int → Hp → VK → Prop := fun x lo hi H Q => rSlL K x lo hi H Q ∨ (rSlP K x lo hi H Q ∨ rSlS x lo hi H Q)
theorem sl_U : SlR X (rSlU X.K) := SlR.or sl_list (SlR.or sl_tupP sl_str)
end
section
variable {K : PySem.W.Frag} {δ : List S} {te ta tb : TE} {x y : D} {s : S} {xs ys : List D}
theorem ei_seqL (h : EV K te δ (.d (.lst xs))) : EI K (iSeq K te) δ xs := fun He Ge H τo τs σ hl ok R q => .inl (ei_list h He Ge H τo τs σ hl ok R q)
theorem ei_seqT (h : EV K te δ (.d (.tup xs))) : EI K (iSeq K te) δ xs := fun He Ge H τo τs σ hl ok R q => .inr (ei_tup h He Ge H τo τs σ hl ok R q)
theorem et_seqT {n : Nat} {gs : TGs} {δ' : List S} (h : ETs K gs δ xs δ') (hn : xs.length = n) : ET K (gSeq K n gs) δ (.tup xs) δ' := fun He Ge H G τo τs σ v hl ok r Q q => .inl (et_tup h hn He Ge H G τo τs σ v hl ok r Q q)
theorem et_seqL {n : Nat} {gs : TGs} {δ' : List S} (h : ETs K gs δ xs δ') (hn : xs.length = n) : ET K (gSeq K n gs) δ (.lst xs) δ' := fun He Ge H G τo τs σ v hl ok r Q q => .inr (et_lst h hn He Ge H G τo τs σ v hl ok r Q q)
theorem gok_seq {n : Nat} {gs : TGs} {vs : List Nat} (h : GsOk gs vs) : GOk (gSeq K n gs) vs := fun v σ H Q q => q.imp (fun ⟨a, xs, e, h1, h2, q⟩ => ⟨a, xs, e, h1, h2, h xs σ H Q q⟩) fun ⟨a, xs, e, h1, h2, q⟩ => ⟨a, xs, e, h1, h2, h xs σ H Q q⟩
theorem tuple_lst : RVN K (rTupU K) [.lst xs] (.d (.tup xs)) := by
  intro He Ge H G σ δ vs ok r Q q
  cases r with
  | cons r0 r2 =>
    cases r2
    cases r0 with
    | lst h r => exact ⟨_, _, rfl, .inl ⟨SqL.of (ok.gh _ _ h), fun l o hl hc hd => q _ _ (doneT ok hl hc hd r)⟩⟩
theorem tuple_tup : RVN K (rTupU K) [.tup xs] (.d (.tup xs)) := by
  intro He Ge H G σ δ vs ok r Q q
  cases r with
  | cons r0 r2 =>
    cases r2
    cases r0 with
    | tup h r => exact ⟨_, _, rfl, .inr ⟨ok.gh.t h.t, q _ _ (done ok (.tup h r))⟩⟩
variable {t : TT} {b : Bool}
theorem ev_ifT (h : EB K t δ true) (h1 : EV K ta δ s) : EV K (tIf t ta tb) δ s := ev_if1 h (fun _ => h1) fun z => nomatch z
theorem ev_ifF (h : EB K t δ false) (h1 : EV K tb δ s) : EV K (tIf t ta tb) δ s := ev_if1 h (fun z => nomatch z) fun _ => h1

theorem RpL.cut {G : Hp} {xs : List D} {vs : List V} (r : RpL K G xs vs) (lo hi : Option Int) : RpL K G ((xs.drop (HT.sIx xs.length 0 lo)).take (HT.sIx xs.length xs.length hi - HT.sIx xs.length 0 lo)) (cutV vs lo hi) := by
  unfold cutV
  rw [r.length]
  exact (r.drop _).take _
def cutD (xs : List D) (lo hi : Option Int) : List D := (xs.drop (HT.sIx xs.length 0 lo)).take (HT.sIx xs.length xs.length hi - HT.sIx xs.length 0 lo)
def EO (K : PySem.W.Frag) (to : TO) (δ : List S) (o : Option Int) : Prop := ∀ (He Ge H : Hp) (τo : L2.St) (τs : List S) (σ : L2.St), τo.length = τs.length → OK K He Ge H (τo ++ σ) (τs ++ δ) →
  ∀ Q : Option Int → Hp → Prop, (∀ H', OK K He Ge H' (τo ++ σ) (τs ++ δ) → Q o H') → to σ H Q
theorem eo_none : EO K tNoPart δ none := fun He Ge H τo τs σ hl ok Q q => q H ok
theorem eo_some {i : Int} (h : EV K te δ (.d (.int i))) : EO K (tPart te) δ (some i) := by
  intro He Ge H τo τs σ hl ok Q q
  refine h He Ge H τo τs σ hl ok _ fun v H1 ⟨G, ok1⟩ => ?_
  obtain ⟨_, e, r⟩ := ok1.top
  cases e; cases r
  exact ⟨i, rfl, q H1 ⟨G, ok1.pop⟩⟩
variable {tl th : TO} {lo hi : Option Int}
theorem ev_slG {r : V → Option Int → Option Int → Hp → VK → Prop} (h : EV K te δ (.d x)) (h1 : EO K tl δ lo) (h2 : EO K th δ hi)
    (hr : ∀ (He Ge H G : Hp) (σ : L2.St) (δ : List S) (v : V), OKG K He Ge H G σ δ → Rp K G x v → ∀ Q : VK, (∀ z H', OK K He Ge H' (some z :: σ) (s :: δ) → Q z H') → r v lo hi H Q) : EV K (tSl r te tl th) δ s := by
  intro He Ge H τo τs σ hl ok Q q
  refine h He Ge H τo τs σ hl ok _ fun v H1 ok1 => ?_
  refine h1 He Ge H1 (some v :: τo) (.d x :: τs) σ (by simp [hl]) ok1 _ fun H2 ok2 => ?_
  refine h2 He Ge H2 (some v :: τo) (.d x :: τs) σ (by simp [hl]) ok2 _ fun H3 ⟨G, ok3⟩ => ?_
  obtain ⟨_, e, rr⟩ := ok3.top
  cases e
  exact hr He Ge H3 G _ _ v ok3.pop rr Q q
theorem ev_slL (h : EV K te δ (.d (.lst xs))) (h1 : EO K tl δ lo) (h2 : EO K th δ hi) : EV K (tSl (rSlU K) te tl th) δ (.own (cutD xs lo hi)) := ev_slG h h1 h2 fun He Ge H G σ δ v ok r Q q => by
  cases r with
  | lst hh rr => exact .inl ⟨_, _, rfl, SqL.of (ok.gh _ _ hh), fun p hp => q _ _ (doneL ok hp (rr.cut lo hi))⟩
theorem ev_slT (h : EV K te δ (.d (.tup xs))) (h1 : EO K tl δ lo) (h2 : EO K th δ hi) : EV K (tSl (rSlU K) te tl th) δ (.d (.tup (cutD xs lo hi))) := ev_slG h h1 h2 fun He Ge H G σ δ v ok r Q q => by
  cases r with
  | tup hh rr =>
    refine .inr (.inl ⟨_, _, rfl, ok.gh.t hh.t, fun ⟨e1, e2⟩ => ?_, fun _ p o hp hc hd => q _ _ (doneT ok hp hc hd (rr.cut lo hi))⟩)
    rw [← rr.length] at e1 e2
    have e : cutD xs lo hi = xs := by unfold cutD; rw [e1, e2, List.drop_zero, Nat.sub_zero, List.take_length]
    rw [e] at q
    exact q _ _ (done ok (.tup hh rr))
theorem ev_slS {z : Str} (h : EV K te δ (.d (.str z))) (h1 : EO K tl δ lo) (h2 : EO K th δ hi) (hz : z.length ≤ sizeLine) : EV K (tSl (rSlU K) te tl th) δ (.d (.str (cutS z lo hi))) := ev_slG h h1 h2 fun He Ge H G σ δ v ok r Q q => by
  cases r
  exact .inr (.inr ⟨z, rfl, hz, q _ _ (done ok .str)⟩)
end
end Far
namespace Far
open PySem L2
@[simp] theorem isTy_non_int : isTy .non "int" = false := by show (kitB "NoneType" "int").getD false = false; decide +kernel
@[simp] theorem isTy_non_bool : isTy .non "bool" = false := by show (kitB "NoneType" "bool").getD false = false; decide +kernel
@[simp] theorem isTy_non_tuple : isTy .non "tuple" = false := by show (kitB "NoneType" "tuple").getD false = false; decide +kernel
@[simp] theorem isTy_non_list : isTy .non "list" = false := by show (kitB "NoneType" "list").getD false = false; decide +kernel
@[simp] theorem isTy_non_str : isTy .non "str" = false := by show (kitB "NoneType" "str").getD false = false; decide +kernel
@[simp] theorem isTy_bl_int {b : Bool} : isTy (.bl b) "int" = true := by show (kitB "bool" "int").getD false = true; decide +kernel
@[simp] theorem isTy_bl_bool {b : Bool} : isTy (.bl b) "bool" = true := by show (kitB "bool" "bool").getD false = true; decide +kernel
@[simp] theorem isTy_bl_tuple {b : Bool} : isTy (.bl b) "tuple" = false := by show (kitB "bool" "tuple").getD false = false; decide +kernel
@[simp] theorem isTy_bl_list {b : Bool} : isTy (.bl b) "list" = false := by show (kitB "bool" "list").getD false = false; decide +kernel
@[simp] theorem isTy_bl_str {b : Bool} : isTy (.bl b) "str" = false := by show (kitB "bool" "str").getD false = false; decide +kernel
@[simp] theorem isTy_int_int {i : Int} : isTy (.int i) "int" = true := by show (kitB "int" "int").getD false = true; decide +kernel
@[simp] theorem isTy_int_bool {i : Int} : isTy (.int i) "bool" = false := by show (kitB "int" "bool").getD false = false; decide +kernel
@[simp] theorem isTy_int_tuple {i : Int} : isTy (.int i) "tuple" = false := by show (kitB "int" "tuple").getD false = false; decide +kernel
@[simp] theorem isTy_int_list {i : Int} : isTy (.int i) "list" = false := by show (kitB "int" "list").getD false = false; decide +kernel
@[simp] theorem isTy_int_str {i : Int} : isTy (.int i) "str" = false := by show (kitB "int" "str").getD false = false; decide +kernel
@[simp] theorem isTy_str_int {x : Str} : isTy (.str x) "int" = false := by show (kitB "str" "int").getD false = false; decide +kernel
@[simp] theorem isTy_str_bool {x : Str} : isTy (.str x) "bool" = false := by show (kitB "str" "bool").getD false = false; decide +kernel
@[simp] theorem isTy_str_tuple {x : Str} : isTy (.str x) "tuple" = false := by show (kitB "str" "tuple").getD false = false; decide +kernel
@[simp] theorem isTy_str_list {x : Str} : isTy (.str x) "list" = false := by show (kitB "str" "list").getD false = false; decide +kernel
@[simp] theorem isTy_str_str {x : Str} : isTy (.str x) "str" = true := by show (kitB "str" "str").getD false = true; decide +kernel
@[simp] theorem isTy_tup_int {xs : List D} : isTy (.tup xs) "int" = false := by show (kitB "tuple" "int").getD false = false; decide +kernel
@[simp] theorem isTy_tup_bool {xs : List D} : isTy (.tup xs) "bool" = false := by show (kitB "tuple" "bool").getD false = false; decide +kernel
@[simp] theorem isTy_tup_tuple {xs : List D} : isTy (.tup xs) "tuple" = true := by show (kitB "tuple" "tuple").getD false = true; decide +kernel
@[simp] theorem isTy_tup_list {xs : List D} : isTy (.tup xs) "list" = false := by show (kitB "tuple" "list").getD false = false; decide +kernel
@[simp] theorem isTy_tup_str {xs : List D} : isTy (.tup xs) "str" = false := by show (kitB "tuple" "str").getD false = false; decide +kernel
@[simp] theorem isTy_lst_int {xs : List D} : isTy (.lst xs) "int" = false := by show (kitB "list" "int").getD false = false; decide +kernel
@[simp] theorem isTy_lst_bool {xs : List D} : isTy (.lst xs) "bool" = false := by show (kitB "list" "bool").getD false = false; decide +kernel
@[simp] theorem isTy_lst_tuple {xs : List D} : isTy (.lst xs) "tuple" = false := by show (kitB "list" "tuple").getD false = false; decide +kernel
@[simp] theorem isTy_lst_list {xs : List D} : isTy (.lst xs) "list" = true := by show (kitB "list" "list").getD false = true; decide +kernel
@[simp] theorem isTy_lst_str {xs : List D} : isTy (.lst xs) "str" = false := by show (kitB "list" "str").getD false = false; decide +kernel
theorem isTy_dK_int {kvs : List (Key × D)} : isTy (.dK kvs) "int" = false := by show (kitB "dict" "int").getD false = false; decide +kernel
theorem isTy_dK_bool {kvs : List (Key × D)} : isTy (.dK kvs) "bool" = false := by show (kitB "dict" "bool").getD false = false; decide +kernel
theorem isTy_dK_tuple {kvs : List (Key × D)} : isTy (.dK kvs) "tuple" = false := by show (kitB "dict" "tuple").getD false = false; decide +kernel
theorem isTy_dK_list {kvs : List (Key × D)} : isTy (.dK kvs) "list" = false := by show (kitB "dict" "list").getD false = false; decide +kernel
theorem isTy_dK_str {kvs : List (Key × D)} : isTy (.dK kvs) "str" = false := by show (kitB "dict" "str").getD false = false; decide +kernel
theorem isTy_dP_int {kvs : List (Key × D)} : isTy (.dP kvs) "int" = false := by show (kitB "dict" "int").getD false = false; decide +kernel
theorem isTy_dP_bool {kvs : List (Key × D)} : isTy (.dP kvs) "bool" = false := by show (kitB "dict" "bool").getD false = false; decide +kernel
theorem isTy_dP_tuple {kvs : List (Key × D)} : isTy (.dP kvs) "tuple" = false := by show (kitB "dict" "tuple").getD false = false; decide +kernel
theorem isTy_dO_tuple {kvs : List (KO × KO)} : isTy (.dO kvs) "tuple" = false := by show (kitB "dict" "tuple").getD false = false; decide +kernel
theorem isTy_dT_tuple {kvs : List (List KO × D)} : isTy (.dT kvs) "tuple" = false := by show (kitB "dict" "tuple").getD false = false; decide +kernel
theorem isTy_dU_tuple {kvs : List (List KO × D)} : isTy (.dU kvs) "tuple" = false := by show (kitB "dict" "tuple").getD false = false; decide +kernel
theorem isTy_dP_list {kvs : List (Key × D)} : isTy (.dP kvs) "list" = false := by show (kitB "dict" "list").getD false = false; decide +kernel
theorem isTy_dO_list {kvs : List (KO × KO)} : isTy (.dO kvs) "list" = false := by show (kitB "dict" "list").getD false = false; decide +kernel
theorem isTy_dT_list {kvs : List (List KO × D)} : isTy (.dT kvs) "list" = false := by show (kitB "dict" "list").getD false = false; decide +kernel
theorem isTy_dU_list {kvs : List (List KO × D)} : isTy (.dU kvs) "list" = false := by show (kitB "dict" "list").getD false = false; decide +kernel
theorem isTy_dP_str {kvs : List (Key × D)} : isTy (.dP kvs) "str" = false := by show (kitB "dict" "str").getD false = false; decide +kernel
theorem tyN_mem {x : D} (h : known x = true) : tyN x ∈ ["NoneType", "bool", "int", "str", "tuple", "list", "dict"] := by
  cases x <;> first | (simp [known] at h; done) | (simp [tyN])
theorem kit_all : ∀ t ∈ ["NoneType", "bool", "int", "str", "tuple", "list", "dict"], ∀ n ∈ ["int", "bool", "tuple", "list", "str"], (kitB t n).isSome = true := by decide +kernel
theorem kit_any {x : D} {n : String} (h : known x = true) (hn : n ∈ ["int", "bool", "tuple", "list", "str"]) : (kitB (tyN x) n).isSome = true := kit_all _ (tyN_mem h) _ hn
theorem cdiv_small {i j : Int} (h : 0 < j) (h2 : j < 1073741824) : CDivW i j := wide_div (b := 30) h (by rw [show (2:Nat)^30 = 1073741824 from by decide]; omega) (by decide) (by decide)
theorem known_get {xs : List D} {x : D} (h : xs.all known = true) (hx : x ∈ xs) : known x = true := List.all_eq_true.mp h x hx
section
variable {K : PySem.W.Frag} {δ : List S} {te : TE} {wi : TI} {g : TG} {tt : TT} {vs : List Nat}
theorem eb_yes : EB K tYes δ true := fun He Ge H τo τs σ hl ok Q q => q H ok
theorem ev_lcF {ys : List D} {p : D → Bool} {f : D → D} (hi : EI K wi δ ys) (hg : GOk g vs) (hz : ys.length ≤ sizeLine) (k : ∀ y ∈ ys, ∃ δ2, ET K g (hide δ vs) y δ2 ∧ EB K tt δ2 (p y) ∧ (p y = true → EV K te δ2 (.d (f y)))) : EV K (tLc wi g tt te vs) δ (.own ((ys.filter p).map f)) :=
  ev_lc (h := id) (ei_is hi (List.map_id _).symm) hg hz k
theorem sz {n : Nat} (h : n ≤ 16777216) : n ≤ sizeLine := by rw [sizeLine_eq]; exact h
/-- an item at a place that is not written -/
theorem atI_getD {α : Type} {xs : List α} {i : Int} {d : α} (h0 : 0 ≤ i) (h1 : i < xs.length) : L2.atI xs i = some (xs.getD i.toNat d) := by
  have h2 : i.toNat < xs.length := by omega
  have e : i = ((i.toNat : Nat) : Int) := by omega
  rw [e]
  refine L2.atI_nat ?_
  rw [Int.toNat_natCast, List.getElem?_eq_getElem h2, List.getD_eq_getElem?_getD, List.getElem?_eq_getElem h2]; rfl
/-- .. of a list of ints -/
theorem atI_ints {xs : List Int} {i : Int} (h0 : 0 ≤ i) (h1 : i < xs.length) : L2.atI (xs.map D.int) i = some (.int (xs.getD i.toNat 0)) := by
  rw [atI_getD (d := D.int 0) h0 (by rw [List.length_map]; exact h1)]
  congr 1
  rw [List.getD_eq_getElem?_getD, List.getElem?_map, List.getD_eq_getElem?_getD]
  cases xs[i.toNat]? <;> rfl
mutual
theorem pur_lay : ∀ {x : D}, pur x = true → (pd x).canLay0 = true
  | .non, _ => by simp [pd, PyData.canLay0]
  | .bl _, _ => by simp [pd, PyData.canLay0]
  | .int _, _ => by simp [pd, PyData.canLay0]
  | .str _, h => by simpa [pd, PyData.canLay0, pur] using h
  | .tup xs, h => by simp only [pd, PyData.canLay0]; exact purL_lay (by simpa [pur] using h)
  | .lst xs, h => by simp only [pd, PyData.canLay0]; exact purL_lay (by simpa [pur] using h)
  | .scr xs, h => by simp only [pd, PyData.canLay0]; exact purL_lay (by simpa [pur] using h)
  | .ty _, h => by simp [pur] at h
  | .cls _, h => by simp [pur] at h
  | .ins _ _, h => by simp [pur] at h
  | .dK _, h => by simp [pur] at h
  | .dP _, h => by simp [pur] at h
theorem purL_lay : ∀ {xs : List D}, purL xs = true → PyData.canLayAll0 (pdL xs) = true
  | [], _ => by simp [pdL, PyData.canLayAll0]
  | x :: xs, h => by
    simp only [purL, Bool.and_eq_true] at h
    simp only [pdL, PyData.canLayAll0, Bool.and_eq_true]
    exact ⟨pur_lay h.1, purL_lay h.2⟩
end
theorem shaped_of {x : D} (h : pur x = true) (hd : (pd x).depth ≤ 64) : SeqAt.shaped (pd x) = true := by
  unfold SeqAt.shaped; rw [pur_lay h]; simpa using hd
def eqD (x y : D) : Bool := PyData.eqv (pd x) (pd y)
theorem eq_D {x y : D} (p1 : pur x = true) (p2 : pur y = true) (h1 : (pd x).depth ≤ 64) (h2 : (pd y).depth ≤ 64) : RV2 K (rEqU K) x y (.d (.bl (eqD x y))) := eq_dat p1 p2 (shaped_of p1 h1) (shaped_of p2 h2)
theorem ne_D {x y : D} (p1 : pur x = true) (p2 : pur y = true) (h1 : (pd x).depth ≤ 64) (h2 : (pd y).depth ≤ 64) : RV2 K (rNeU K) x y (.d (.bl (!eqD x y))) := ne_dat p1 p2 (shaped_of p1 h1) (shaped_of p2 h2)
theorem pur_ints : ∀ ns : List Int, purL (ns.map D.int) = true
  | [] => rfl
  | n :: r => by simp [purL, pur, pur_ints r]
theorem depth_intsD : ∀ ns : List Int, PyData.depthAll (pdL (ns.map D.int)) = 0
  | [] => by simp [pdL, PyData.depthAll]
  | n :: r => by simp [pdL, pd, PyData.depthAll, PyData.depth, depth_intsD r]
theorem eqv_nil (xs : List D) : PyData.eqvAll (pdL xs) [] = xs.isEmpty := by cases xs <;> simp [pdL, PyData.eqvAll]
theorem ne_scr_nil {ns : List Int} : RV2 K (rNeU K) (.scr (ns.map .int)) (.lst []) (.d (.bl (!ns.isEmpty))) := by
  have z := ne_D (K := K) (x := .scr (ns.map .int)) (y := .lst []) (by simp [pur, pur_ints]) rfl (by simp [pd, PyData.depth, depth_intsD]) (by simp [pd, pdL, PyData.depth, PyData.depthAll])
  have e : eqD (.scr (ns.map .int)) (.lst []) = ns.isEmpty := by
    simp only [eqD, pd, pdL, PyData.eqv]
    rw [eqv_nil]; cases ns <;> rfl
  rwa [e] at z
theorem weak_refl {δ : List S} : weak δ δ := fun i s h => .inl h
/-- slot by slot -/
inductive WK : List S → List S → Prop
  | nil : WK [] []
  | same {s : S} {r t : List S} : WK r t → WK (s :: r) (s :: t)
  | un {s : S} {r t : List S} : WK r t → WK (s :: r) (.un :: t)
theorem weak_cons {s t : S} {a b : List S} (h : s = t ∨ t = .un) (r : weak a b) : weak (s :: a) (t :: b) := fun i u e => by
  cases i with
  | zero =>
    simp at e
    rcases h with rfl | rfl
    · exact .inl (by simp [e])
    · exact .inr ⟨e.symm, s, rfl⟩
  | succ i =>
    simp at e
    rcases r i u e with q | ⟨q1, t, q2⟩
    · exact .inl (by simpa using q)
    · exact .inr ⟨q1, t, by simpa using q2⟩
theorem WK.weak : ∀ {a b : List S}, WK a b → Far.weak a b
  | _, _, .nil => weak_refl
  | _, _, .same r => weak_cons (.inl rfl) (WK.weak r)
  | _, _, .un r => weak_cons (.inr rfl) (WK.weak r)
variable {E : WX} {N B C : List S → Prop} {R : S → List S → Prop} {X : List S → Addr → List (Str × D) → Prop} {tb : TS}
theorem range_get {n i y : Nat} (h : (List.range n)[i]? = some y) : i < n ∧ y = i := by
  obtain ⟨q, e⟩ := List.getElem?_eq_some_iff.mp h
  simp at q e; exact ⟨q, e.symm⟩
theorem emod_in (c : Int) {m : Int} (h : 0 < m) : 0 ≤ c % m ∧ c % m < m := ⟨Int.emod_nonneg c (by omega), Int.emod_lt_of_pos c h⟩
mutual
theorem eqv_self : ∀ {x : D}, pur x = true → PyData.eqv (pd x) (pd x) = true
  | .non, _ => by simp [pd, PyData.eqv]
  | .bl _, _ => by simp [pd, PyData.eqv]
  | .int _, _ => by simp [pd, PyData.eqv]
  | .str _, _ => by simp [pd, PyData.eqv]
  | .tup xs, h => by simp only [pd, PyData.eqv]; exact eqv_selfL (by simpa [pur] using h)
  | .lst xs, h => by simp only [pd, PyData.eqv]; exact eqv_selfL (by simpa [pur] using h)
  | .scr xs, h => by simp only [pd, PyData.eqv]; exact eqv_selfL (by simpa [pur] using h)
  | .ty _, h => by simp [pur] at h
  | .cls _, h => by simp [pur] at h
  | .ins _ _, h => by simp [pur] at h
  | .dK _, h => by simp [pur] at h
  | .dP _, h => by simp [pur] at h
theorem eqv_selfL : ∀ {xs : List D}, purL xs = true → PyData.eqvAll (pdL xs) (pdL xs) = true
  | [], _ => by simp [pdL, PyData.eqvAll]
  | x :: xs, h => by
    simp only [purL, Bool.and_eq_true] at h
    simp only [pdL, PyData.eqvAll, Bool.and_eq_true]
    exact ⟨eqv_self h.1, eqv_selfL h.2⟩
end
end
end Far
namespace Far
open PySem L2 PySem.Spec PyProof.Rows
section
variable {X : Cx} {pins : List (Addr × Obj)} {σ : L2.St} {H : Hp} {s : Shared}
end
section
variable {X : Cx} {x n m : Str} {c : Value} {i j : Nat} {body : List Stmt} {np np2 mp ap pos pos' : Pos} {tb : WX → TS}
end
end Far
namespace Far
open PySem L2 PySem.Spec PyProof.Rows
def tMakeS (C : Addr) (sp : Sp) (E : L2.St → XK) (t : TA) : TE := fun σ H Q => t σ H fun vs H1 => ∀ x dx, H1 x = none → H1 dx = none → dx ≠ x →
  sp (.ref x :: vs) (upd (upd H1 dx (.own x)) x (.ins C dx [])) (fun v H2 => v = .non ∧ Q (.ref x) H2) (E σ)
def tMethS (C : Addr) (m : Str) (sp : Sp) (E : L2.St → XK) (ta : TE) (t : TA) : TE := fun σ H Q => ta σ H fun x H1 => ∃ a dx fs, x = .ref a ∧ H1 a = some (.ins C dx fs) ∧ fs.lookup m = none ∧
  t σ H1 fun vs H2 => sp (x :: vs) H2 Q (E σ)
section
variable {X : Cx} {CX : CXT} {k : Nat} {f C : Addr} {fd : FuncData} {ps : List Str} {sp : Sp} {E : L2.St → XK} {x m : Str} {p pos apos : Pos} {e o : Expr} {es : List Expr} {ta : TE} {t : TA}
theorem passC {σ : L2.St} : PassesAt (L2.CX X.prog X.w) X σ E0 := fun pins H s e s' I c => passL pins σ H s e s' I c
theorem run_makeS {σ : L2.St} {pins : List (Addr × Obj)} {H : Hp} {s : Shared} {Q : VK} {us : List Value} {vs : List V} {E1 : XK} (M : Mk X.K C f) (F : FnOk X.prog X.w X.K X.mg X.base CX k f fd ps sp) (hr : Room (k + 1) X.A) (hb : Binds X.K fd ps [])
    (hx : PassesAt CX X σ E1) (I : Inv X pins σ H s) (r : Vals vs us)
    (h : ∀ x dx, H x = none → H dx = none → dx ≠ x → sp (.ref x :: vs) (upd (upd H dx (.own x)) x (.ins C dx [])) (fun v H2 => v = .non ∧ Q (.ref x) H2) E1) :
    wpAny (model X.prog X.w) X.A (call (.ref C) us) (EP X pins σ Q) X.xe s := by
  have hq := h (s.heap.objs.size + 1) s.heap.objs.size (I.hok.fresh (Nat.le_succ _)) (I.hok.fresh (Nat.le_refl _)) (Nat.ne_of_lt (Nat.lt_succ_self _))
  have I2 := Inv.made (C := C) I
  have r2 : Vals (V.ref (s.heap.objs.size + 1) :: vs) (Value.ref (s.heap.objs.size + 1) :: us) := .cons rfl r
  have hl : (Value.ref (s.heap.objs.size + 1) :: us).length = ps.length := by
    rw [← r2.length]; exact F.len _ _ _ _ hq
  have b := hb _ (Value.ref (s.heap.objs.size + 1) :: us) I2.kIn (by rw [List.append_nil]; exact hl)
  rw [List.append_nil] at b
  refine wpAny_call (make_map (f := f) I.kIn M.makes M.init (beq_iff_eq.mp M.fn) (codeAny_mono (F.run _ X.stack _ _ ⟨Value.ref (s.heap.objs.size + 1) :: us, []⟩ (Value.ref (s.heap.objs.size + 1) :: us) _ _ E1 (hr.make C us [])
    (I2.env0.make C us []) b r2 hq) fun r s' hq' => ?_))
  cases r with
  | error e => exact hx pins _ _ e s' I2 hq'
  | ok fl =>
    cases fl with
    | ret u =>
      obtain ⟨v, H', I3, rv, ev, q3⟩ := I2.after hq'
      subst ev
      exact ⟨rv, ⟨V.ref (s.heap.objs.size + 1), H', I3, rfl, q3⟩⟩
    | next => exact False.elim hq'
    | brk => exact False.elim hq'
    | cont => exact False.elim hq'
theorem pe_makeS (M : Mk X.K C f) (F : FnOk X.prog X.w X.K X.mg X.base CX k f fd ps sp) (hr : Room (k + 1) X.A) (hg : Gl X x) (hm : X.mg x = some (.ref C)) (hb : Binds X.K fd ps []) (hx : ∀ σ, PassesAt CX X σ (E σ))
    (ha : PA X (e :: es) t) (hdb : (x == ("__debug__" : Str)) = false := by decide) (he : starEach (e :: es) X.env = (false, eval e X.env) :: starEach es X.env := by rfl) (hpl : (backTo pos (starEach es X.env)).any (·.1) = false := by rfl) :
    PE X (.Call (.Name x p) (e :: es) [] pos) (tMakeS C sp E t) := by
  refine ⟨fun pins s σ H Q I h => ?_⟩
  refine wpAny_Call_Name_kw (ld_glob I hg hm ?_ hdb)
  refine PySem.W.callWith_K (h₀ := X.base) I.ok.mod.kin M.kp (thn (ha.run pos pins s σ H _ I h) fun us s1 ⟨vs, H1, I1, r, q⟩ => ⟨I1.kIn, ?_⟩) he hpl
  exact run_makeS M F hr hb (hx σ) I1 r q
theorem pe_methS {pl : Sem Bool} (he : PE X o ta) (c : Cls X.K C) (hm : Meth X.K C m f) (F : FnOk X.prog X.w X.K X.mg X.base CX k f fd ps sp) (hr : Room k X.A) (hb : Binds X.K fd ps []) (hx : ∀ σ, PassesAt CX X σ (E σ)) (ha : PA X (e :: es) t)
    (hst : starEach (e :: es) X.env = (false, eval e X.env) :: starEach es X.env := by rfl) (hpl : (backTo pos (starEach es X.env)).any (·.1) = false := by rfl)
    (ht : eval (.Call (.Attribute o m apos) (e :: es) [] pos) X.env = (do
      let ov ← eval o X.env
      standAt apos.atName
      let (f, first) ← holding [ov] (getMethod ov m pl)
      callWith pos f first (backTo pos (starEach (e :: es) X.env)) (backToKw pos (keywordEach [] X.env))) := by rfl) :
    PE X (.Call (.Attribute o m apos) (e :: es) [] pos) (tMethS C m sp E ta t) := by
  refine ⟨fun pins s σ H Q I h => ?_⟩
  refine PySem.W.methodCall_KW (pl := pl) (thn (he.run pins s σ H _ I h) fun u s1 ⟨x, H1, I1, rx, a, dx, fs, ex, ea, l, q⟩ => ?_) ht
  subst ex
  obtain rfl : u = Value.ref a := rx
  refine getmeth_ok I1 ea c hm l ?_
  refine PySem.W.callWith_K (first := [.ref a]) (h₀ := X.base) I.ok.mod.kin hm.kp (thn (ha.run pos pins s1 σ H1 _ I1 q) fun us s2 ⟨vs, H2, I2, r, q2⟩ => ⟨I2.kIn, ?_⟩) hst hpl
  exact run_fnS (us := .ref a :: us) (vs := .ref a :: vs) F hr hb (hx σ) I2 (.cons rfl r) q2
theorem pe_methS0 {pl : Sem Bool} (he : PE X o ta) (c : Cls X.K C) (hm : Meth X.K C m f) (F : FnOk X.prog X.w X.K X.mg X.base CX k f fd ps sp) (hr : Room k X.A) (hb : Binds X.K fd ps []) (hx : ∀ σ, PassesAt CX X σ (E σ))
    (ht : eval (.Call (.Attribute o m apos) [] [] pos) X.env = (do
      let ov ← eval o X.env
      standAt apos.atName
      let (f, first) ← holding [ov] (getMethod ov m pl)
      callWith pos f first (backTo pos (starEach [] X.env)) (backToKw pos (keywordEach [] X.env))) := by rfl) :
    PE X (.Call (.Attribute o m apos) [] [] pos) (tMethS C m sp E ta tNil) := by
  refine ⟨fun pins s σ H Q I h => ?_⟩
  refine PySem.W.methodCall_KW (pl := pl) (thn (he.run pins s σ H _ I h) fun u s1 ⟨x, H1, I1, rx, a, dx, fs, ex, ea, l, q⟩ => ?_) ht
  subst ex
  obtain rfl : u = Value.ref a := rx
  refine getmeth_ok I1 ea c hm l ?_
  exact PySem.W.callWith_K0 (first := [.ref a]) I1.kIn hm.kp (run_fnS (us := [.ref a]) (vs := [.ref a]) F hr hb (hx σ) I1 (.cons rfl .nil) q)
end
/-- the heap without the new instance -/
def hid (H : Hp) (x dx : Addr) : Hp := fun b => if b = x ∨ b = dx then none else H b
theorem hid_ex {H : Hp} {x dx : Addr} : Ex (hid H x dx) H := .of fun a o e => by
  unfold hid at e
  split at e
  · cases e
  · exact e
theorem hid_tab {K : PySem.W.Frag} {H G : Hp} {x dx : Addr} (h : TabOk K (hid H x dx) G) : TabOk K H G := h.mono (fun P ps e => by
  unfold hid at e
  split at e
  · cases e
  · exact e) (.refl G)
theorem hid_new {H : Hp} {x dx : Addr} {o1 o2 : HO} (h1 : H x = none) (h2 : H dx = none) : hid (upd (upd H dx o1) x o2) x dx = H := by
  funext b
  unfold hid
  by_cases e : b = x ∨ b = dx
  · rw [if_pos e]; rcases e with rfl | rfl
    · exact h1.symm
    · exact h2.symm
  · rw [if_neg e]
    have e1 : b ≠ x := fun z => e (.inl z)
    have e2 : b ≠ dx := fun z => e (.inr z)
    rw [upd_ne e1, upd_ne e2]
def spI (K : PySem.W.Frag) (C : Addr) (R : List D → Out → Prop) : Sp := fun vs H Q E => ∃ G x dx us xs out, vs = .ref x :: us ∧ H x = some (.ins C dx []) ∧ H dx = some (.own x) ∧ dx ≠ x ∧ (Ex G (hid H x dx) ∧ TabOk K (hid H x dx) G) ∧ RpL K G xs us ∧ R xs out ∧
  (∀ fs G' H', out = .ret (.d (.ins C fs)) → Ex G G' → Ex G' H' → Ex (hid H x dx) H' → Nc K (hid H x dx) G H' G' → Rp K G' (.ins C fs) (.ref x) → Q .non H') ∧
  (∀ c fs cls d G' H', out = .exc c fs → Ex G G' → Ex G' H' → Ex (hid H x dx) H' → Nc K (hid H x dx) G H' G' → XOk K G' H' c fs cls d → E cls d H')
def SDefI (K : PySem.W.Frag) (E : WX) (x C : Addr) (t : TS) (δ : List S) (out : Out) : Prop := SD K E t δ (fun δ' => ∃ fs, δ'[0]? = some (.ob (some x) C fs) ∧ out = .ret (.d (.ins C fs))) (fun _ _ => False) NoS NoS (fun _ c fs => out = .exc c fs)
def slotsI (n : Nat) (x C : Addr) (xs : List D) : List S := .ob (some x) C [] :: slots (n - 1) xs
theorem ok_startH {K : PySem.W.Frag} {G He H : Hp} {n : Nat} {xs : List D} {vs : List V} (e : Ex G He) (eh : Ex He H) (t0 : TabOk K He G) (t1 : TabOk K H G) (r : RpL K G xs vs) : OKG K He G H G (vs.map some ++ List.replicate (n - vs.length) none) (slots n xs) := by
  refine ⟨.refl G, e.trans eh, eh, ⟨fun _ _ z => z, t0, t1⟩, fun i s h => ?_, fun i j s t p hij hi hj o1 => ?_⟩
  · unfold slots at h
    rcases Nat.lt_or_ge i xs.length with q | q
    · rw [List.getElem?_append_left (by simpa using q), List.getElem?_map] at h
      obtain ⟨x, ex, rfl⟩ := Option.map_eq_some_iff.mp h
      obtain ⟨v, ev, rv⟩ := r.get ex
      refine ⟨some v, ?_, v, rfl, rv⟩
      rw [List.getElem?_append_left (by rw [List.length_map, ← r.length]; exact q), List.getElem?_map, ev]; rfl
    · rw [List.getElem?_append_right (by simpa using q)] at h
      have hs : s = .un := List.eq_of_mem_replicate (List.mem_of_getElem? h)
      have hl := (List.getElem?_eq_some_iff.mp h).1
      rw [List.length_replicate, List.length_map] at hl
      subst hs
      refine ⟨none, ?_, trivial⟩
      rw [List.getElem?_append_right (by rw [List.length_map, ← r.length]; exact q), List.getElem?_replicate, if_pos (by rw [List.length_map, ← r.length]; exact hl)]
  · have : ∀ s ∈ slots n xs, owned s = false := fun s hs => by
      rcases List.mem_append.mp hs with z | z
      · obtain ⟨x, _, rfl⟩ := List.mem_map.mp z; rfl
      · rw [List.eq_of_mem_replicate z]; rfl
    rw [this s (List.mem_of_getElem? hi)] at o1; cases o1
theorem init_run {K : PySem.W.Frag} {C : Addr} {R : List D → Out → Prop} {N : List Str} {vs : List V} {H : Hp} {Q : VK} {E : XK} {t : TS} (hN : 0 < N.length) (h : spI K C R vs H Q E) (k : ∀ x xs out, R xs out → SDefI K (fun cls d _ H => E cls d H) x C t (slotsI N.length x C xs) out) : t { nx := fun _ H' => Q .non H', rt := Q } (L2.start N vs) H := by
  obtain ⟨G, x, dx, us, xs, out, rfl, hx, hdx, ne, ⟨e, t0⟩, r, hr, q1, q2⟩ := h
  have est : L2.start N (.ref x :: us) = some (.ref x) :: (us.map some ++ List.replicate (N.length - 1 - us.length) none) := by
    unfold L2.start
    rw [List.map_cons, List.cons_append, List.length_cons, Nat.sub_add_eq, Nat.sub_right_comm]
  rw [est]
  have h0 := ok_startH (n := N.length - 1) e hid_ex t0 (hid_tab t0) r
  have hx0 : hid H x dx x = none := by unfold hid; simp
  have hd0 : hid H x dx dx = none := by unfold hid; simp
  have ok : OKG K (hid H x dx) G H G (some (.ref x) :: (us.map some ++ List.replicate (N.length - 1 - us.length) none)) (slotsI N.length x C xs) := by
    refine h0.push (s := .ob (some x) C []) ⟨x, dx, [], rfl, (fun _ z => Option.some.inj z), hx0, e.none hx0, hd0, e.none hd0, hx, hdx, .nil⟩ fun _ j s p _ hj ho _ => ?_
    have : ∀ s ∈ slots (N.length - 1) xs, owned s = false := fun s hs => by
      rcases List.mem_append.mp hs with z | z
      · obtain ⟨x, _, rfl⟩ := List.mem_map.mp z; rfl
      · rw [List.eq_of_mem_replicate z]; rfl
    rw [this s (List.mem_of_getElem? hj)] at ho; cases ho
  refine k x xs out hr (hid H x dx) G H _ _ ⟨G, ok⟩ (fun δ' σ' H' ⟨G', ok'⟩ ⟨fs, e0, eo⟩ => ?_) (fun _ _ _ _ _ _ z => z.elim) (fun _ _ _ _ z => z.elim) (fun _ _ _ _ z => z.elim) fun c fs cls d G' σ' δ' H' ok x z => q2 c fs cls d G' H' z ok.ge ok.gh ok.he ok.nc x
  obtain ⟨o, _, x', dx', gs, rfl, hq, h1, h2, h3, h4, h5, h6, rf⟩ := ok'.sl 0 _ e0
  cases hq x rfl
  have ne2 : dx' ≠ x := fun z => by rw [z, h5] at h6; cases h6
  have g1 : Ex G' (upd (upd G' x (.ins C dx' gs)) dx' (.own x)) := (Ex.new h2).trans (.new (by rw [upd_ne ne2]; exact h4))
  refine q1 fs _ H' eo (ok'.ge.trans g1) ⟨fun b u q n => ?_, fun b ps q => ?_⟩ ok'.he ⟨fun b b1 b2 => ?_, ok'.nc.t0, ok'.nc.tb.mono (fun _ _ e => e) g1⟩ (.ins (by rw [upd_ne (Ne.symm ne2), upd_same]) (rf.mono g1))
  · by_cases z : b = dx'
    · subst z; rw [upd_same] at q; cases q; exact h6
    · rw [upd_ne z] at q
      by_cases z2 : b = x
      · subst z2; rw [upd_same] at q; cases q; exact h5
      · rw [upd_ne z2] at q; exact ok'.gh.nt b u q n
  · by_cases z : b = dx'
    · subst z; rw [upd_same] at q; cases q
    · rw [upd_ne z] at q
      by_cases z2 : b = x
      · subst z2; rw [upd_same] at q; cases q
      · rw [upd_ne z2] at q; exact ok'.gh.tb b ps q
  · have z1 : b ≠ dx' := fun z => b1 (by rw [z]; exact h3)
    have z2 : b ≠ x := fun z => b1 (by rw [z]; exact h1)
    rw [upd_ne z1, upd_ne z2]; exact ok'.nc b b1 b2
section
variable {K : PySem.W.Frag} {δ : List S} {te ta tb : TE} {tr : TA} {x y z : D} {s : S} {xs : List D} {fs : List (Str × D)} {C : Addr} {R : List D → Out → Prop} {E : L2.St → XK} {c : Addr} {cf : List (Str × D)}
/-- te lets out an exception of the class at c with the fields cf -/
def EX (K : PySem.W.Frag) (E : L2.St → XK) (te : TE) (δ : List S) (c : Addr) (cf : List (Str × D)) : Prop := ∀ (He Ge H : Hp) (τo : L2.St) (τs : List S) (σ : L2.St), τo.length = τs.length → OK K He Ge H (τo ++ σ) (τs ++ δ) →
  (∀ cls d G' H', OKG K He Ge H' G' (τo ++ σ) (τs ++ δ) → XOk K G' H' c cf cls d → E σ cls d H') → ∀ Q : VK, te σ H Q
def EXA (K : PySem.W.Frag) (E : L2.St → XK) (ta : TA) (δ : List S) (c : Addr) (cf : List (Str × D)) : Prop := ∀ (He Ge H : Hp) (τo : L2.St) (τs : List S) (σ : L2.St), τo.length = τs.length → OK K He Ge H (τo ++ σ) (τs ++ δ) →
  (∀ cls d G' H', OKG K He Ge H' G' (τo ++ σ) (τs ++ δ) → XOk K G' H' c cf cls d → E σ cls d H') → ∀ Q : List V → Hp → Prop, ta σ H Q
theorem sp_ret {He Ge H G : Hp} {σ : L2.St} {δ : List S} {vs : List V} {E : XK} (ok1 : OKG K He Ge H G σ δ) (r1 : RpL K G xs vs) (hr : R xs (.ret s)) {Q : VK} (q : ∀ v H', OK K He Ge H' (some v :: σ) (s :: δ) → Q v H') : spD K R vs H Q E := by
  refine ⟨G, xs, .ret s, ⟨ok1.gh, ok1.nc.tb⟩, r1, hr, fun v s' G' H' e g1 g2 g3 nc k _ => ?_, fun c fs cls d G' H' e => (nomatch e)⟩
  cases e
  refine q v H' ⟨G', (ok1.grow g3 g1 g2 nc).push ?_ fun ho j t p e hj hoj eσ => ?_⟩
  · cases s with
    | un => trivial
    | ot _ _ _ => trivial
    | d x => exact k
    | own ys => obtain ⟨p, us, e, h1, h2, h3, r⟩ := k; exact ⟨p, us, e, ok1.he.none h1, h2, h3, r⟩
    | okd ys => obtain ⟨p, us, e, h1, h2, h3, r⟩ := k; exact ⟨p, us, e, ok1.he.none h1, h2, h3, r⟩
    | okt ys => obtain ⟨p, us, e, h1, h2, h3, r⟩ := k; exact ⟨p, us, e, ok1.he.none h1, h2, h3, r⟩
    | oko ys => obtain ⟨p, us, e, h1, h2, h3⟩ := k; exact ⟨p, us, e, ok1.he.none h1, h2, h3⟩
    | ob q C fs => obtain ⟨a, dx, gs, e, hq, h1, h2, h3, h4, h5, h6, r⟩ := k; exact ⟨a, dx, gs, e, hq, ok1.he.none h1, h2, ok1.he.none h3, h4, h5, h6, r⟩
  · cases e
    have hn : H p = none := by
      cases s with
      | un => cases ho
      | ot _ _ _ => cases ho
      | d x => cases ho
      | own ys => obtain ⟨p', us, e, h1, _⟩ := k; cases e; exact h1
      | okd ys => obtain ⟨p', us, e, h1, _⟩ := k; cases e; exact h1
      | okt ys => obtain ⟨p', us, e, h1, _⟩ := k; cases e; exact h1
      | oko ys => obtain ⟨p', us, e, h1, _⟩ := k; cases e; exact h1
      | ob q C fs => obtain ⟨a, dx, gs, e, _, h1, _⟩ := k; cases e; exact h1
    obtain ⟨o, eo, k2⟩ := ok1.sl j t hj
    rw [eo] at eσ
    cases eσ
    cases t with
    | un => cases hoj
    | ot _ _ _ => cases hoj
    | d x => cases hoj
    | own ys => obtain ⟨p', vs', e, _, _, h3, _⟩ := k2; cases e; rw [hn] at h3; cases h3
    | okd ys => obtain ⟨p', vs', e, _, _, h3, _⟩ := k2; cases e; rw [hn] at h3; cases h3
    | okt ys => obtain ⟨p', vs', e, _, _, h3, _⟩ := k2; cases e; rw [hn] at h3; cases h3
    | oko ys => obtain ⟨p', vs', e, _, _, h3⟩ := k2; cases e; rw [hn] at h3; cases h3
    | ob q C fs => obtain ⟨a, dx, gs, e, _, _, _, _, _, h5, _⟩ := k2; cases e; rw [hn] at h5; cases h5
theorem ev_callS (h : EA K tr δ xs) (hr : R xs (.ret s)) : EV K (tCallS (spD K R) E tr) δ s := by
  intro He Ge H τo τs σ hl ok Q q
  have z := ev_call (E := E σ) h hr He Ge H τo τs σ hl ok Q q
  unfold tCall at z
  simp only [List.append_nil] at z
  exact z
theorem ex_callS (h : EA K tr δ xs) (hr : R xs (.exc c cf)) : EX K E (tCallS (spD K R) E tr) δ c cf := by
  intro He Ge H τo τs σ hl ok k Q
  refine h He Ge H τo τs σ hl ok _ fun vs H1 G ok1 r1 => ?_
  exact ⟨G, xs, .exc c cf, ⟨ok1.gh, ok1.nc.tb⟩, r1, hr, fun v s' G' H' e => (nomatch e), fun c' fs cls d G' H' e g1 g2 g3 nc k2 => by
    cases e
    exact k cls d G' H' (ok1.grow g3 g1 g2 nc) k2⟩
theorem exa_head (h : EX K E te δ c cf) : EXA K E (tCons te tr) δ c cf := fun He Ge H τo τs σ hl ok k Q => h He Ge H τo τs σ hl ok k _
theorem exa_tail (h1 : EV K te δ (.d x)) (h : EXA K E tr δ c cf) : EXA K E (tCons te tr) δ c cf := fun He Ge H τo τs σ hl ok k Q =>
  h1 He Ge H τo τs σ hl ok _ fun v H1 ok1 => h He Ge H1 (some v :: τo) (.d x :: τs) σ (by simp [hl]) ok1 (fun cls d G' H' ok' x => k cls d G' H' ok'.pop x) _
theorem ex_op1 {r : R2} (h : EX K E ta δ c cf) : EX K E (tOp r ta tb) δ c cf := fun He Ge H τo τs σ hl ok k Q => h He Ge H τo τs σ hl ok k _
theorem ex_op2 {r : R2} (h1 : EV K ta δ (.d x)) (h : EX K E tb δ c cf) : EX K E (tOp r ta tb) δ c cf := fun He Ge H τo τs σ hl ok k Q =>
  h1 He Ge H τo τs σ hl ok _ fun v H1 ok1 => h He Ge H1 (some v :: τo) (.d x :: τs) σ (by simp [hl]) ok1 (fun cls d G' H' ok' x => k cls d G' H' ok'.pop x) _
theorem ev_makeS (h : EA K tr δ xs) (hr : R xs (.ret (.d (.ins C fs)))) : EV K (tMakeS C (spI K C R) E tr) δ (.d (.ins C fs)) := by
  intro He Ge H τo τs σ hl ok Q q
  refine h He Ge H τo τs σ hl ok _ fun vs H1 G ok1 r1 => ?_
  intro x dx hx hdx ne
  have hh := hid_new (o1 := .own x) (o2 := .ins C dx []) hx hdx
  refine ⟨G, x, dx, vs, xs, _, rfl, upd_same, by rw [upd_ne ne, upd_same], ne, by rw [hh]; exact ⟨ok1.gh, ok1.nc.tb⟩, r1, hr, fun fs' G' H' e g1 g2 g3 nc k => ?_, fun c fs cls d G' H' e => (nomatch e)⟩
  cases e
  rw [hh] at g3 nc
  exact ⟨rfl, q _ H' ⟨G', (ok1.grow g3 g1 g2 nc).pushD k⟩⟩
theorem ev_methS {m : Str} (h0 : EV K ta δ (.d (.ins C fs))) (hm : fs.lookup m = none) (h : EA K tr δ xs) (hr : R (.ins C fs :: xs) (.ret s)) : EV K (tMethS C m (spD K R) E ta tr) δ s := by
  intro He Ge H τo τs σ hl ok Q q
  refine h0 He Ge H τo τs σ hl ok _ fun v H1 ok1 => ?_
  obtain ⟨G1, ok1⟩ := ok1
  obtain ⟨_, e1, r1⟩ := ok1.top
  cases e1
  cases r1 with
  | ins hp rf =>
    refine ⟨_, _, _, rfl, ok1.gh _ _ hp, rf.nolook hm, ?_⟩
    refine h He Ge H1 (some _ :: τo) (.d (.ins C fs) :: τs) σ (by simp [hl]) ⟨G1, ok1⟩ _ fun vs H2 G2 ok2 r2 => ?_
    obtain ⟨_, e2, r3⟩ := ok2.top
    cases e2
    exact sp_ret ok2.pop (.cons r3 r2) hr q
theorem ev_fld {f : Str} (h : EV K ta δ (.d (.ins C fs))) (c : Cls K C) (n : NoAttr K C f) (l : fs.lookup f = some x) : EV K (tFld K ta f) δ (.d x) := by
  intro He Ge H τo τs σ hl ok Q q
  refine h He Ge H τo τs σ hl ok _ fun v H1 ⟨G1, ok1⟩ => ?_
  obtain ⟨_, e1, r1⟩ := ok1.top
  cases e1
  cases r1 with
  | ins hp rf =>
    obtain ⟨u, l2, r2⟩ := rf.lookup l
    exact ⟨_, _, _, _, _, rfl, ok1.gh _ _ hp, c, n, l2, q _ _ ⟨G1, ok1.pop.pushD r2⟩⟩
variable {W : WX} {N B Ct : List S → Prop} {Rt : S → List S → Prop} {Xc : List S → Addr → List (Str × D) → Prop} {t u : TS}
def tRaise (C : Addr) (W : WX) : TS := fun _ σ H => W (.ref C) none σ H
theorem sd_raise (h : Xc δ C []) : SD K W (tRaise C W) δ N Rt B Ct Xc := fun He Ge H σ Dn ⟨G, ok⟩ nx rt bk ct xx => xx C [] (.ref C) none G σ δ H ok ⟨rfl, .inl ⟨rfl, rfl⟩⟩ h
theorem ex0 (h : EX K (WE W) te δ c cf) {He Ge H : Hp} {σ : L2.St} (ok : OK K He Ge H σ δ) (k : ∀ cls d G' H', OKG K He Ge H' G' σ δ → XOk K G' H' c cf cls d → W cls d σ H') (Q : VK) : te σ H Q := h He Ge H [] [] σ rfl ok k Q
theorem sd_asgX {g : TG} (h : EX K (WE W) te δ c cf) (hx : Xc δ c cf) : SD K W (tAsg te g) δ N Rt B Ct Xc := fun He Ge H σ Dn ok nx rt bk ct xx => ex0 h ok (fun cls d G' H' ok' x => xx c cf cls d G' σ δ H' ok' x hx) _
theorem sd_dropX (h : EX K (WE W) te δ c cf) (hx : Xc δ c cf) : SD K W (tDrop te) δ N Rt B Ct Xc := fun He Ge H σ Dn ok nx rt bk ct xx => ex0 h ok (fun cls d G' H' ok' x => xx c cf cls d G' σ δ H' ok' x hx) _
theorem sd_retX (h : EX K (WE W) te δ c cf) (hx : Xc δ c cf) : SD K W (tRet te) δ N Rt B Ct Xc := fun He Ge H σ Dn ok nx rt bk ct xx => ex0 h ok (fun cls d G' H' ok' x => xx c cf cls d G' σ δ H' ok' x hx) _
theorem OKG.changeOb {He Ge H G : Hp} {σ : L2.St} {i : Nat} {q : Option Addr} {a dx : Addr} {gs gs2 : List (Str × V)} {fs2 : List (Str × D)} (h : OKG K He Ge H G σ δ) (hi : δ[i]? = some (.ob q C fs)) (hs : σ[i]? = some (some (.ref a))) (hl : H a = some (.ins C dx gs)) (r : RpF K G fs2 gs2) : OKG K He Ge (upd H a (.ins C dx gs2)) G σ (δ.set i (.ob q C fs2)) := by
  obtain ⟨o, e, a1, dx1, gs', rfl, hq, h1, h2, h3, h4, h5, h6, r'⟩ := h.sl i _ hi
  have hs' := hs
  rw [e] at hs'
  cases hs'
  rw [h5] at hl
  cases hl
  have hlt : i < δ.length := (List.getElem?_eq_some_iff.mp hi).1
  have nd : dx ≠ a := fun z => by rw [z, h5] at h6; cases h6
  refine ⟨h.ge, h.gh.put h2, h.he.put h1, ⟨h.nc, h.nc.t0, h.nc.tb.put (fun ps z => by rw [h5] at z; cases z) (.refl G)⟩, fun j t q => ?_, fun j k s' t p' hjk hj hk o1 o2 e1 e2 => ?_⟩
  · by_cases z : i = j
    · subst z
      rw [List.getElem?_set_self hlt] at q; cases q
      exact ⟨_, e, a, dx, gs2, rfl, hq, h1, h2, h3, h4, upd_same, by rw [upd_ne nd]; exact h6, r⟩
    · rw [List.getElem?_set_ne z] at q
      obtain ⟨o, eo, k⟩ := h.sl j t q
      refine ⟨o, eo, ?_⟩
      cases t with
      | un => trivial
      | ot _ _ _ => trivial
      | d x => exact k
      | own zs =>
        obtain ⟨p2, vs2, rfl, k1, k2, k3, r2⟩ := k
        have ne : p2 ≠ a := fun y => by rw [y, h5] at k3; cases k3
        exact ⟨p2, vs2, rfl, k1, k2, by rw [upd_ne ne]; exact k3, r2⟩
      | okd zs =>
        obtain ⟨p2, vs2, rfl, k1, k2, k3, r2⟩ := k
        have ne : p2 ≠ a := fun y => by rw [y, h5] at k3; cases k3
        exact ⟨p2, vs2, rfl, k1, k2, by rw [upd_ne ne]; exact k3, r2⟩
      | okt zs =>
        obtain ⟨p2, vs2, rfl, k1, k2, k3, r2⟩ := k
        have ne : p2 ≠ a := fun y => by rw [y, h5] at k3; cases k3
        exact ⟨p2, vs2, rfl, k1, k2, by rw [upd_ne ne]; exact k3, r2⟩
      | oko zs =>
        obtain ⟨p2, vs2, rfl, k1, k2, k3⟩ := k
        have ne : p2 ≠ a := fun y => by rw [y, h5] at k3; cases k3
        exact ⟨p2, vs2, rfl, k1, k2, by rw [upd_ne ne]; exact k3⟩
      | ob q2 C2 fs3 =>
        obtain ⟨a2, dx2, gs3, rfl, kq, k1, k2, k3, k4, k5, k6, r2⟩ := k
        have n1 : a2 ≠ a := fun y => h.ne i j _ _ a z hi q rfl rfl e (by rw [← y]; exact eo)
        have n2 : dx2 ≠ a := fun y => by rw [y, h5] at k6; cases k6
        exact ⟨a2, dx2, gs3, rfl, kq, k1, k2, k3, k4, by rw [upd_ne n1]; exact k5, by rw [upd_ne n2]; exact k6, r2⟩
  · have un : ∀ (m : Nat) (s : S), (δ.set i (.ob q C fs2))[m]? = some s → owned s = true → ∃ s2, δ[m]? = some s2 ∧ owned s2 = true := fun m s q q2 => by
      by_cases z : i = m
      · subst z; exact ⟨_, hi, rfl⟩
      · rw [List.getElem?_set_ne z] at q; exact ⟨s, q, q2⟩
    obtain ⟨s2, q1, q2⟩ := un j _ hj o1
    obtain ⟨t2, q3, q4⟩ := un k _ hk o2
    exact h.ne j k s2 t2 p' hjk q1 q3 q2 q4 e1 e2
theorem sd_fld {i : Nat} {a : Option Addr} {f : Str} (hi : δ[i]? = some (.ob a C fs)) (h : EV K te δ (.d x)) (c : Cls K C) (n : NoAttr K C f) (hl : fs.length < 1000) (nx : N (δ.set i (.ob a C (putD f x fs)))) : SD K W (sFld K (tVar i) te f) δ N Rt B Ct Xc := by
  intro He Ge H σ Dn ok n1 rt bk ct xx
  refine ev0 h ok fun v H' ⟨G', ok'⟩ => ?_
  obtain ⟨o, eo, a0, dx, gs, rfl, kq, k1, k2, k3, k4, k5, k6, rf⟩ := ok'.pop.sl i _ hi
  obtain ⟨w, e4, rw_⟩ := ok'.top
  cases e4
  exact ⟨_, eo, a0, C, dx, gs, rfl, k5, c, n, by rw [← rf.length]; exact hl, n1 _ _ _ ⟨G', ok'.pop.changeOb hi eo k5 (rf.put rw_)⟩ nx⟩
end
def rIsX (K : PySem.W.Frag) : List V → Hp → VK → Prop := fun xs H Q => ∃ (a D : Addr) (c : V) (cv : Value) (b : Bool), xs = [.ref a, c] ∧ (H a = some (ExK (.ref D) none a) ∨ H a = some (ExO (.ref D) a)) ∧ ExcC K D ∧ ClsV c cv ∧ PySem.W.kitOne K (.ref D) cv = some b ∧ Q (.bl b) H
def rIsXT (K : PySem.W.Frag) : List V → Hp → VK → Prop := fun xs H Q => ∃ (a D tp : Addr) (cs : List V) (us : List Value) (b : Bool), xs = [.ref a, .ref tp] ∧ (H a = some (ExK (.ref D) none a) ∨ H a = some (ExO (.ref D) a)) ∧ ExcC K D ∧ SqT K H tp cs ∧ Paired ClsV cs us ∧ PySem.W.kitAny K (.ref D) us = some b ∧ Q (.bl b) H
def rIsTS (K : PySem.W.Frag) : List V → Hp → VK → Prop := fun xs H Q => ∃ (x : V) (tp : Addr) (cs : List V) (t : Value) (us : List Value) (b : Bool), xs = [x, .ref tp] ∧ SqT K H tp cs ∧ Paired ClsV cs us ∧ TyY K H x t ∧ PySem.W.kitAny K t us = some b ∧ Q (.bl b) H
def rIsU (K : PySem.W.Frag) : List V → Hp → VK → Prop := fun xs H Q => rIsi2 K xs H Q ∨ rIsX K xs H Q ∨ rIsTS K xs H Q ∨ rIsXT K xs H Q
section
variable {X : Cx}
theorem exc_at {pins : List (Addr × Obj)} {σ : L2.St} {H : Hp} {s : Shared} {a D : Addr} (I : Inv X pins σ H s) (h : H a = some (ExK (.ref D) none a) ∨ H a = some (ExO (.ref D) a)) : ∃ oe, PySem.W.InstAt s.heap a oe D none := by
  have z : ∃ (oe : Obj) (vs : Array Value), s.heap.get? a = some oe ∧ Zc (.ref D) none oe ∧ oe.data = .fields vs := by
    rcases h with h | h
    · obtain ⟨z, _⟩ := I.hok a _ h; exact z
    · obtain ⟨⟨oe, vs, e, z, d, _⟩, _⟩ := I.hok a _ h; exact ⟨oe, vs, e, z, d⟩
  obtain ⟨oe, vs, e, z, d⟩ := z
  refine ⟨oe, ?_⟩
  obtain ⟨oc, od, oda, osl⟩ := oe
  obtain ⟨h1, h2⟩ := z
  dsimp only at h1 h2 d
  subst h1 h2 d
  exact ⟨e, rfl, rfl, trivial⟩
theorem call_isU : CallR X (.builtin "isinstance") (rIsU X.K) := by
  intro pins s σ H xs us Q I r h
  rcases h with h | h | h | h
  · exact call_isi2 pins s σ H xs us Q I r h
  · obtain ⟨a, D, c, cv, b, rfl, ha, C, k, e, q⟩ := h
    obtain ⟨u1, u2, rfl, r1, r2⟩ := vals2 r
    have e2 := k.eq r2
    subst e2
    cases (show u1 = Value.ref a from r1)
    obtain ⟨oe, J⟩ := exc_at I ha
    exact PySem.W.kia_one (PySem.W.handS_kitx_exc C.hg C.hk C.hs C.hd C.ha C.hn C.ht C.hm) I.kIn J e (fun z => nomatch z) fun tk => ⟨.bl b, H, I.tok tk, rfl, q⟩
  · obtain ⟨x, tp, cs, t, ws, b, rfl, hT, k, ty, e, q⟩ := h
    obtain ⟨u1, u2, rfl, r1, r2⟩ := vals2 r
    cases (show u2 = Value.ref tp from r2)
    obtain ⟨P, Z, p, hx⟩ := kit_of2 I r1 ty
    obtain ⟨its, rv, ⟨o, h1, h2, n, h3⟩, _⟩ := I.tuple hT
    have e3 := ClsV.all k rv
    subst e3
    obtain ⟨oc, od, dt, sl⟩ := o
    simp only at h2 h3
    subst h2 h3
    exact PySem.W.kia_tup Z I.kIn p h1 e hx fun tk => ⟨.bl b, H, I.tok tk, rfl, q⟩
  · obtain ⟨a, D, tp, cs, ws, b, rfl, ha, C, hT, k, e, q⟩ := h
    obtain ⟨u1, u2, rfl, r1, r2⟩ := vals2 r
    cases (show u2 = Value.ref tp from r2)
    cases (show u1 = Value.ref a from r1)
    obtain ⟨oe, J⟩ := exc_at I ha
    obtain ⟨its, rv, ⟨o, h1, h2, n, h3⟩, _⟩ := I.tuple hT
    have e3 := ClsV.all k rv
    subst e3
    obtain ⟨oc, od, dt, sl⟩ := o
    simp only at h2 h3
    subst h2 h3
    exact PySem.W.kia_tup (PySem.W.handS_kitx_exc C.hg C.hk C.hs C.hd C.ha C.hn C.ht C.hm) I.kIn J h1 e (fun z => nomatch z) fun tk => ⟨.bl b, H, I.tok tk, rfl, q⟩
end
/-- a class of the text, as isinstance asks its instances -/
structure InsC (K : PySem.W.Frag) (C : Addr) : Prop where
  cl : Cls K C
  ha : PySem.W.findIn K (.ref C) "__class__" = some (some (.builtin "object.__class__"))
  hn : PySem.W.specialIn K (.builtin "object.__class__") "__get__" = some (some (.builtin "getset_descriptor.__get__"))
  ht : PySem.W.takesIn K (.builtin "object.__class__") = some true
  hm : PySem.W.mroIn K C (.type "object") = some true
/-- the class that a datum is -/
def clsD : D → Option Value
  | .ty n => some (.type n) | .cls a => some (.ref a) | _ => none
section
variable {K : PySem.W.Frag} {x c : D} {b : Bool} {cv : Value}
theorem clsV_of {G : Hp} {v : V} (h : clsD c = some cv) (r : Rp K G c v) : ClsV v cv := by
  cases r <;> simp [clsD] at h
  · subst h; exact .ty _
  · subst h; exact .own _
theorem clsV_all {G : Hp} : ∀ {cs : List D} {us : List Value} {vs : List V}, cs.mapM clsD = some us → RpL K G cs vs → Paired ClsV vs us
  | [], us, vs, h, r => by
    cases r
    simp at h
    subst h; exact .nil
  | c :: cs, us, vs, h, r => by
    cases r with
    | cons r0 r =>
      rw [List.mapM_cons] at h
      cases e : clsD c with
      | none => rw [e] at h; simp at h
      | some w =>
        rw [e] at h
        cases e2 : cs.mapM clsD with
        | none => rw [e2] at h; simp at h
        | some ws =>
          rw [e2] at h
          simp at h
          subst h
          exact .cons (clsV_of e r0) (clsV_all e2 r)
/-- what isinstance asks of a datum: its class -/
inductive Kin (K : PySem.W.Frag) : D → Value → Prop
  | ty {x : D} (h : known x = true) : Kin K x (.type (tyN x))
  | ins {C : Addr} {fs : List (Str × D)} (h : InsC K C) : Kin K (.ins C fs) (.ref C)
  | exc {C : Addr} (h : ExcC K C) : Kin K (.exc C []) (.ref C)
theorem is_any {t : Value} (hk : Kin K x t) (hc : clsD c = some cv) (h : PySem.W.kitOne K t cv = some b) : RVN K (rIsU K) [x, c] (.d (.bl b)) := by
  intro He Ge H G σ δ vs ok r Q q
  cases r with
  | cons r0 r2 =>
    cases r2 with
    | cons r1 r2 =>
      cases r2
      cases hk with
      | ty hk => exact .inl ⟨_, _, _, _, b, rfl, clsV_of hc r1, known_ty hk ok.gh r0, h, q _ _ (done ok .bl)⟩
      | ins hi =>
        cases r0 with
        | ins hp rf => exact .inl ⟨_, _, _, _, b, rfl, clsV_of hc r1, .x (.base (.ins (ok.gh _ _ hp) hi.cl hi.ha hi.hn hi.ht hi.hm)), h, q _ _ (done ok .bl)⟩
      | exc he =>
        cases r0 with
        | exc0 hp => exact .inr (.inl ⟨_, _, _, _, b, rfl, .inl (ok.gh _ _ hp), he, clsV_of hc r1, h, q _ _ (done ok .bl)⟩)
        | exo hp => exact .inr (.inl ⟨_, _, _, _, b, rfl, .inr (ok.gh _ _ hp), he, clsV_of hc r1, h, q _ _ (done ok .bl)⟩)
        | exc1 _ _ _ n => exact absurd rfl n
theorem is_anyT {t : Value} {cs : List D} {us : List Value} (hk : Kin K x t) (hc : cs.mapM clsD = some us) (h : PySem.W.kitAny K t us = some b) : RVN K (rIsU K) [x, .tup cs] (.d (.bl b)) := by
  intro He Ge H G σ δ vs ok r Q q
  cases r with
  | cons r0 r2 =>
    cases r2 with
    | cons r1 r2 =>
      cases r2
      cases r1 with
      | tup hT rT =>
        have hP := clsV_all hc rT
        have hT' := ok.gh.t hT.t
        cases hk with
        | ty hk => exact .inr (.inr (.inl ⟨_, _, _, _, _, b, rfl, hT', hP, known_ty hk ok.gh r0, h, q _ _ (done ok .bl)⟩))
        | ins hi =>
          cases r0 with
          | ins hp rf => exact .inr (.inr (.inl ⟨_, _, _, _, _, b, rfl, hT', hP, .x (.base (.ins (ok.gh _ _ hp) hi.cl hi.ha hi.hn hi.ht hi.hm)), h, q _ _ (done ok .bl)⟩))
        | exc he =>
          cases r0 with
          | exc0 hp => exact .inr (.inr (.inr ⟨_, _, _, _, _, b, rfl, .inl (ok.gh _ _ hp), he, hT', hP, h, q _ _ (done ok .bl)⟩))
          | exo hp => exact .inr (.inr (.inr ⟨_, _, _, _, _, b, rfl, .inr (ok.gh _ _ hp), he, hT', hP, h, q _ _ (done ok .bl)⟩))
          | exc1 _ _ _ n => exact absurd rfl n
end
section
variable {P : Program} {w : World} {K : PySem.W.Frag} {mg : Str → Option Value} {base : Heap}
theorem ok_defX {x qual : Str} {st : Stmt} {f : Addr} {fd : FuncData} {N ps : List Str} {k : Nat} {R : List D → Out → Prop} {t : WX → TS} (F : Fun K x qual st f fd) (S : FnScope N ps (defScope st)) (hl : ∀ xs out, R xs out → xs.length = ps.length)
    (hd : ∀ (cdv : Value) (A : Around) (outer : List Env) (s : Shared) (H : Hp) (E : XK), Room k (A.deeper (envOfC qual (defScope st) s.heap.objs.size f cdv)) → PSs (cxOf (L2.CX P w) P w K mg base N qual (defScope st) f cdv A outer s H E) (defBody st) (t fun cls d _ H => E cls d H))
    (hs : ∀ (E : WX) xs out, R xs out → SDef K E (t E) (slots N.length xs) out) : FnOk P w K mg base (L2.CX P w) (k + 1) f fd ps (spD K R) :=
  F.okX S (spD_len hl) fun cdv A outer s H vs Q E hr h => ⟨t _, hd cdv A outer s H E hr, body_run h (hs _)⟩
theorem spI_len {C : Addr} {R : List D → Out → Prop} {n : Nat} (h : ∀ xs out, R xs out → xs.length + 1 = n) : ∀ vs H Q E, spI K C R vs H Q E → vs.length = n := fun vs H Q E ⟨G, x, dx, us, xs, out, e0, _, _, _, _, r, hr, _⟩ => by
  rw [e0, List.length_cons, ← r.length]; exact h xs out hr
theorem ok_initX {C : Addr} {x qual : Str} {st : Stmt} {f : Addr} {fd : FuncData} {N ps : List Str} {k : Nat} {R : List D → Out → Prop} {t : WX → TS} (F : Fun K x qual st f fd) (S : FnScope N ps (defScope st)) (hl : ∀ xs out, R xs out → xs.length + 1 = ps.length) (hN : 0 < N.length)
    (hd : ∀ (cdv : Value) (A : Around) (outer : List Env) (s : Shared) (H : Hp) (E : XK), Room k (A.deeper (envOfC qual (defScope st) s.heap.objs.size f cdv)) → PSs (cxOf (L2.CX P w) P w K mg base N qual (defScope st) f cdv A outer s H E) (defBody st) (t fun cls d _ H => E cls d H))
    (hs : ∀ (E : WX) x xs out, R xs out → SDefI K E x C (t E) (slotsI N.length x C xs) out) : FnOk P w K mg base (L2.CX P w) (k + 1) f fd ps (spI K C R) :=
  F.okX S (spI_len hl) fun cdv A outer s H vs Q E hr h => ⟨t _, hd cdv A outer s H E hr, init_run hN h (hs _)⟩
end
end Far
namespace Far
open PySem L2 PySem.Spec PyProof.Rows
section
variable {X : Cx}
end
section
variable {K : PySem.W.Frag} {δ : List S} {to te ta tb ti : TE} {t : TA} {x y z : D} {xs ys : List D}
section
variable {X : Cx} {name : Str} {id : String} {r : V → List V → Hp → VK → Prop} {o e : Expr} {es : List Expr} {to : TE} {t : TA} {cpos apos : Pos}
end
variable {W : WX} {N B Ct : List S → Prop} {Rt : S → List S → Prop} {Xc : List S → Addr → List (Str × D) → Prop} {tt uu : TS} {c : TT} {b : Bool}
def RP2 (K : PySem.W.Frag) (r : R2) (x y z : D) : Prop := ∀ (H G : Hp) (v u : V), Rp K G x v → Rp K G y u → ∀ Q : VK, (∀ w, Rp K G z w → Q w H) → r v u H Q
end
theorem pass0C {X : Cx} {σ : L2.St} : PassesAt CX0 X σ E0 := fun pins H s e s' I c => pass0 pins σ H s e s' I c
section
variable {K : PySem.W.Frag} {δ : List S} {t u : TE} {s : S} {c : Addr} {cf : List (Str × D)} {E : L2.St → XK}
end
/-- classes named one by one -/
inductive ClsL : List D → List Value → Prop
  | nil : ClsL [] []
  | ty {n : String} {cs : List D} {us : List Value} : ClsL cs us → ClsL (.ty n :: cs) (.type n :: us)
  | cls {a : Addr} {cs : List D} {us : List Value} : ClsL cs us → ClsL (.cls a :: cs) (.ref a :: us)
theorem ClsL.mapM {cs : List D} {us : List Value} (h : ClsL cs us) : cs.mapM clsD = some us := by
  induction h with
  | nil => rfl
  | ty _ ih => rw [List.mapM_cons, ih]; rfl
  | cls _ ih => rw [List.mapM_cons, ih]; rfl
theorem kitAny_t {K : PySem.W.Frag} {t c : Value} {cs : List Value} (h : PySem.W.kitOne K t c = some true) : PySem.W.kitAny K t (c :: cs) = some true := kitAny_cons (r := true) h (fun z => nomatch z) fun _ => rfl
theorem kitAny_f {K : PySem.W.Frag} {t c : Value} {cs : List Value} {r : Bool} (h : PySem.W.kitOne K t c = some false) (hr : PySem.W.kitAny K t cs = some r) : PySem.W.kitAny K t (c :: cs) = some r := kitAny_cons h (fun _ => hr) fun z => nomatch z
theorem ev_chain {K : PySem.W.Frag} {δ : List S} {r r' : R2} {ta tb tc : TE} {x y z : D} {a b : Bool} (ha : EV K ta δ (.d x)) (hb : EV K tb δ (.d y)) (h1 : RV2 K r x y (.d (.bl a))) (hc : EV K tc δ (.d z)) (h2 : RV2 K r' y z (.d (.bl b))) : EV K (tChain r r' ta tb tc) δ (.d (.bl (a && b))) := by
  intro He Ge H τo τs σ hl ok Q q
  refine ha He Ge H τo τs σ hl ok _ fun v H1 ok1 => ?_
  refine hb He Ge H1 (some v :: τo) (.d x :: τs) σ (by simp [hl]) ok1 _ fun u H2 ok2 => ?_
  obtain ⟨G2, ok2⟩ := ok2
  obtain ⟨_, e1, r1⟩ := ok2.top
  obtain ⟨_, e2, r2⟩ := ok2.pop.top
  cases e1; cases e2
  refine h1 He Ge H2 G2 _ _ v u ok2 r2 r1 _ fun w H3 ⟨G3, ok3⟩ => ?_
  obtain ⟨_, e3, r3⟩ := ok3.top
  cases e3; cases r3
  refine ⟨a, rfl, ?_⟩
  have ok4 : OKG K He Ge H3 G3 (some u :: some v :: (τo ++ σ)) (.d y :: .d x :: (τs ++ δ)) := ok3.pop
  cases a with
  | false => exact iteF (q _ _ ⟨G3, ok4.pop.pop.pushD .bl⟩)
  | true =>
    refine iteT (hc He Ge H3 (some u :: some v :: τo) (.d y :: .d x :: τs) σ (by simp [hl]) ⟨G3, ok4⟩ _ fun w H4 ⟨G4, ok5⟩ => ?_)
    obtain ⟨_, e5, r5⟩ := ok5.top
    obtain ⟨_, e6, r6⟩ := ok5.pop.top
    cases e5; cases e6
    exact h2 He Ge H4 G4 _ _ u w ok5.pop.pop.pop r6 r5 Q q
/-- a list of one's own in slot i is data from now on -/
theorem OKG.freezeAt {K : PySem.W.Frag} {He Ge H G : Hp} {σ : L2.St} {δ : List S} {i : Nat} {xs : List D} (ok : OKG K He Ge H G σ δ) (hi : δ[i]? = some (.own xs)) : ∃ G', OKG K He Ge H G' σ (δ.set i (.d (.lst xs))) := by
  obtain ⟨o, eo, p, vs, rfl, h1, h2, h3, r⟩ := ok.sl i _ hi
  have hlt : i < δ.length := (List.getElem?_eq_some_iff.mp hi).1
  have g1 : Ex G (upd G p (.lst vs)) := .new h2
  refine ⟨upd G p (.lst vs), ok.ge.trans g1, ok.gh.lay h3, ok.he, ⟨fun b b1 b2 => ?_, ok.nc.t0, ok.nc.tb.mono (fun _ _ e => e) g1⟩, fun j s hj => ?_, fun j k s t p' hjk hj hk o1 o2 e1 e2 => ?_⟩
  · have z : b ≠ p := fun y => b1 (by rw [y]; exact h1)
    rw [upd_ne z]; exact ok.nc b b1 b2
  · by_cases z : i = j
    · subst z
      rw [List.getElem?_set_self hlt] at hj; cases hj
      exact ⟨_, eo, _, rfl, .lst upd_same (r.mono g1)⟩
    · rw [List.getElem?_set_ne z] at hj
      obtain ⟨o, e, k⟩ := ok.sl j s hj
      refine ⟨o, e, ?_⟩
      cases s with
      | un => trivial
      | ot _ _ _ => trivial
      | d x => obtain ⟨v, e1, r'⟩ := k; exact ⟨v, e1, r'.mono g1⟩
      | own ys =>
        obtain ⟨p2, vs2, rfl, k1, k2, k3, r2⟩ := k
        have ne : p2 ≠ p := fun y => ok.ne i j _ _ p z hi hj rfl rfl eo (by rw [← y]; exact e)
        exact ⟨p2, vs2, rfl, k1, by rw [upd_ne ne]; exact k2, k3, r2.mono g1⟩
      | okd ys =>
        obtain ⟨p2, vs2, rfl, k1, k2, k3, r2⟩ := k
        have ne : p2 ≠ p := fun y => ok.ne i j _ _ p z hi hj rfl rfl eo (by rw [← y]; exact e)
        exact ⟨p2, vs2, rfl, k1, by rw [upd_ne ne]; exact k2, k3, r2.mono g1⟩
      | okt ys =>
        obtain ⟨p2, vs2, rfl, k1, k2, k3, r2⟩ := k
        have ne : p2 ≠ p := fun y => ok.ne i j _ _ p z hi hj rfl rfl eo (by rw [← y]; exact e)
        exact ⟨p2, vs2, rfl, k1, by rw [upd_ne ne]; exact k2, k3, r2.mono g1⟩
      | oko ys =>
        obtain ⟨p2, vs2, rfl, k1, k2, k3⟩ := k
        have ne : p2 ≠ p := fun y => ok.ne i j _ _ p z hi hj rfl rfl eo (by rw [← y]; exact e)
        exact ⟨p2, vs2, rfl, k1, by rw [upd_ne ne]; exact k2, k3⟩
      | ob q C fs =>
        obtain ⟨a, dx, gs, rfl, kq, k1, k2, k3, k4, k5, k6, r'⟩ := k
        have n1 : a ≠ p := fun y => by rw [y, h3] at k5; cases k5
        have n2 : dx ≠ p := fun y => by rw [y, h3] at k6; cases k6
        exact ⟨a, dx, gs, rfl, kq, k1, by rw [upd_ne n1]; exact k2, k3, by rw [upd_ne n2]; exact k4, k5, k6, r'.mono g1⟩
  · have un : ∀ (m : Nat) (s : S), (δ.set i (.d (.lst xs)))[m]? = some s → owned s = true → δ[m]? = some s := fun m s q1 q2 => by
      by_cases z : i = m
      · subst z; rw [List.getElem?_set_self hlt] at q1; cases q1; cases q2
      · rw [List.getElem?_set_ne z] at q1; exact q1
    exact ok.ne j k s t p' hjk (un j s hj o1) (un k t hk o2) o1 o2 e1 e2
theorem sd_frzAt {K : PySem.W.Frag} {δ : List S} {xs : List D} {W : WX} {N B Ct : List S → Prop} {Rt : S → List S → Prop} {Xc : List S → Addr → List (Str × D) → Prop} {t : TS} {i : Nat} (hi : δ[i]? = some (.own xs)) (h : SD K W t (δ.set i (.d (.lst xs))) N Rt B Ct Xc) : SD K W t δ N Rt B Ct Xc := fun He Ge H σ Dn ⟨G, ok⟩ nx r bk ct xx => by
  obtain ⟨G', ok'⟩ := ok.freezeAt hi
  exact h He Ge H σ Dn ⟨G', ok'⟩ nx r bk ct xx
theorem sIx_some {n d : Nat} {a : Int} (h0 : 0 ≤ a) : HT.sIx n d (some a) = min a.toNat n := by
  show (if a < 0 then (a + (n : Int)).toNat else min a.toNat n) = _
  rw [if_neg (by omega)]
theorem cut_to {xs : List D} {a : Int} (h0 : 0 ≤ a) : cutD xs none (some a) = xs.take a.toNat := by
  unfold cutD
  rw [sIx_some h0, HT.sIx_none, List.drop_zero, Nat.sub_zero]
  rcases Nat.le_total a.toNat xs.length with h | h
  · rw [Nat.min_eq_left h]
  · rw [Nat.min_eq_right h, List.take_length, List.take_of_length_le h]
theorem cut_from {xs : List D} {a : Int} (h0 : 0 ≤ a) : cutD xs (some a) none = xs.drop a.toNat := by
  unfold cutD
  rw [sIx_some h0, HT.sIx_none]
  rcases Nat.le_total a.toNat xs.length with h | h
  · rw [Nat.min_eq_left h, List.take_of_length_le (by rw [List.length_drop]; exact Nat.le_refl _)]
  · rw [Nat.min_eq_right h, List.drop_length, List.drop_of_length_le h, List.take_nil]
end Far
namespace Far
open PySem L2 PySem.Spec PyProof.Rows
section
variable {K : PySem.W.Frag} {δ : List S} {E : WX} {N B C : List S → Prop} {R : S → List S → Prop} {X : List S → Addr → List (Str × D) → Prop}
theorem sd_forP {α : Type} {ys : List α} {h : α → D} {wi : TI} {g : TG} {tb : TS} (P : Nat → Prop) (p0 : P 0) (hi : EI K wi δ (ys.map h)) (I : Nat → List S) (h0 : weak δ (I 0))
    (k : ∀ i y, ys[i]? = some y → P i → ∃ δ2, ET K g (I i) (h y) δ2 ∧ SD K E tb δ2 (fun δ' => P (i + 1) ∧ weak δ' (I (i + 1))) R N (fun δ' => P (i + 1) ∧ weak δ' (I (i + 1))) X) (hd : P ys.length → N (I ys.length)) : SD K E (tFor wi g tb) δ N R B C X := by
  intro He Ge H σ Dn ok nx r bk ct xx
  refine hi He Ge H [] [] σ rfl ok _ fun J H1 G ok1 jis => ?_
  have lus : (ys.map h).length = ys.length := List.length_map ..
  refine ⟨fun i m σ2 H2 => i + m = (ys.map h).length ∧ P i ∧ OK K He G H2 σ2 (I i), ⟨(ys.map h).length, by omega, p0, G, (OKG.ground ok1).weak h0⟩, fun i m σ2 H2 ⟨em, pi, G2, ok2⟩ => ?_⟩
  obtain ⟨j1, j2, j3⟩ := jis H2 G2 ok2.ge ok2.gh
  rcases Nat.lt_or_ge i (ys.map h).length with hlt | hge
  · have hy : i < ys.length := by omega
    have ey : ys[i]? = some ys[i] := List.getElem?_eq_getElem hy
    have ex : (ys.map h)[i]? = some (h ys[i]) := by rw [List.getElem?_map, ey]; rfl
    refine .inr ⟨j1 i hlt, fun σ3 H3 => P (i + 1) ∧ OK K He G H3 σ3 (I (i + 1)), fun σ3 H3 k3 => ⟨m - 1, by omega, by omega, k3⟩, fun x H3 hx => ?_⟩
    obtain ⟨G3, y, g1, g2, g3, g4, ey2, rv⟩ := j2 i x H3 hx hlt
    rw [ex] at ey2
    cases ey2
    replace ok2 := ok2.grow g1 g2 g3 (g4.ok ok2.nc.tb)
    obtain ⟨δ2, kt, kb⟩ := k i ys[i] ey pi
    refine kt He G H3 G3 [] [] σ2 x rfl ok2 rv _ fun σ3 ok3 => ?_
    refine kb He G H3 σ3 _ ⟨G3, ok3⟩ ?_ ?_ ?_ ?_ ?_
    · exact fun δ' σ' H' ⟨G', k'⟩ ⟨p, w⟩ => ⟨p, G', k'.weak w⟩
    · exact fun v s σ' δ' H' ⟨G', k', ot⟩ w => r v s σ' δ' H' ⟨G', ok1.unground k', ot⟩ w
    · exact fun δ' σ' H' ⟨G', k'⟩ w => nx δ' σ' H' ⟨G', ok1.unground k'⟩ w
    · exact fun δ' σ' H' ⟨G', k'⟩ ⟨p, w⟩ => ⟨p, G', k'.weak w⟩
    · exact fun c fs cls d G' σ' δ' H' k' k2 w => xx c fs cls d G' σ' δ' H' (ok1.unground k') k2 w
  · have e : i = ys.length := by omega
    subst e
    exact .inl ⟨j3 _ hge, nx _ _ _ ⟨G2, ok1.unground ok2⟩ (hd pi)⟩
end
end Far
namespace Far
open PySem L2 PySem.Spec PyProof.Rows
section
variable {K : PySem.W.Frag} {δ : List S} {C : Addr}
end
end Far
namespace Far
open PySem L2 PySem.Spec PyProof.Rows
theorem pe_tupP {X : Cx} {es : List Expr} {t : TA} {pos : Pos} {x1 : Nat} (h : PA X es t) : PE X (.Tuple es x1 pos) (tTupP t) := by
  refine ⟨fun pins s σ H Q I hq => ?_⟩
  refine wpAny_Tuple_spliced (thn (h.run pos pins s σ H _ I hq) fun us s1 ⟨xs, H1, I1, r, z, q⟩ => ⟨by rw [← r.length]; exact z, ?_⟩)
  refine ⟨.ref s1.heap.objs.size, _, I1.laid (t' := s1.toks) (o := .frz _ (.tup xs)) (fun b u e => Heap.get?_push_of_some _ e) (Nat.le_refl _) ⟨Heap.get?_push_size _ rfl, z, us, r, ⟨_, Heap.get?_push_size _ rfl, rfl, _, rfl⟩⟩, rfl, ?_⟩
  exact q _ _ (I1.hok.fresh (Nat.le_refl _)) rfl rfl
theorem turn_long {P : Program} {w : World} {K : PySem.W.Frag} {tg : Expr} (it : Addr) (lo : Int) (n : Nat) : Turn P w K tg (Itr lo n) [it] it (fun i h => IsLongIter h it (lo + (i : Nat) * 1) ((n : Int) - (i : Nat)) 1) where
  mem := by simp
  obj := fun i h st b hb => by
    have e : b = it := by simpa using hb
    subst e
    exact ⟨_, st, fun v z => by
      have z' : Data.fields _ = Data.cell v := z
      cases z'⟩
  keep := fun i h h' st k => k it (by simp) _ st
  item := by
    intro X hP hw hK hc i pins s σ H E I hf st hg
    subst hP hw hK
    obtain ⟨f0, f1, f2, f3, f4, f5⟩ := hf it (by simp)
    have W := Walks.longrange (prog := X.prog) (w := X.w) (I.ok.hd hc) it lo 1 n
    refine W.item i s _ _ hg st fun v h' tk hv st' kk => ?_
    obtain ⟨t, rfl⟩ := hv
    have I1 : Inv X pins σ H { s with heap := h', toks := tk } := I.turned (fun b o hb e => kk b o (by simpa using hb) e) f0 f1 f3 f4 f5
    refine ⟨_, rfl, go_of (s := { s with heap := h', toks := tk }) (n := "longrange_iterator") st' rfl rfl (by decide) ⟨.int (lo + i), H, I1, ⟨t, ?_⟩, ⟨rfl, rfl⟩, st', fun b hb => (hf b hb).1⟩⟩
    rw [Int.mul_one]
  done := by
    intro X hP hw hK hc i pins s σ H E I hf st hg
    subst hP hw hK
    obtain ⟨f0, f1, f2, f3, f4, f5⟩ := hf it (by simp)
    exact wpAny_pyNext_long_end (I.ok.hd hc) st (by have : n ≤ i := hg; omega) fun h' eb => ⟨rfl, I.turned (t' := s.toks) (fun b o hb e => eb b o hb e) f0 f1 f3 f4 f5⟩
  self := fun _ _ _ _ _ st h => wpAny_pyIter_longiter st h
section
variable {X : Cx} {tg : Expr}
theorem range_itW {pins : List (Addr × Obj)} {σ : L2.St} {H : Hp} {s : Shared} {R : It → Hp → Prop} {E : Value → Shared → Prop} {lo hi : Int} {t u v : Tok} {tk : Nat} (I : Inv X pins σ H s)
    (q : R (Itr lo (hi - lo).toNat) H) : wpAny (model X.prog X.w) X.A (pyIter (.ref s.heap.objs.size)) (PIE X pins σ tg R) E { s with heap := s.heap.push { cls := .type "range", data := .fields #[.int lo t, .int hi u, .int 1 v] }, toks := tk } := by
  have I1 : Inv X pins σ H { s with heap := s.heap.push { cls := .type "range", data := .fields #[.int lo t, .int hi u, .int 1 v] }, toks := tk } := I.kept fun b o e => Heap.get?_push_of_some _ e
  have e1 : lo + ((0 : Nat) : Int) * 1 = lo := by simp
  have e2 : (((hi - lo).toNat : Nat) : Int) - ((0 : Nat) : Int) = Builtin.Range.rangeSize lo hi 1 := by rw [rangeSize_one]; split <;> omega
  cases hs : Builtin.Range.small lo hi 1 with
  | true =>
    refine wpAny_pyIter_range (IsRange.new ..) hs ?_
    refine ⟨(s.heap.push { cls := .type "range", data := .fields #[.int lo t, .int hi u, .int 1 v] }).objs.size, [(s.heap.push { cls := .type "range", data := .fields #[.int lo t, .int hi u, .int 1 v] }).objs.size], _, _, H, rfl,
      I1.kept (t' := tk) fun b o e => Heap.get?_push_of_some _ e, turn_range _ lo (hi - lo).toNat, ?_, fun b hb => ?_, q⟩
    · show IsRangeIter _ _ (lo + ((0 : Nat) : Int) * 1) ((((hi - lo).toNat : Nat) : Int) - ((0 : Nat) : Int)) 1
      rw [e1, e2]
      exact Heap.get?_push_size _ rfl
    · have e : b = (s.heap.push { cls := .type "range", data := .fields #[.int lo t, .int hi u, .int 1 v] }).objs.size := by simpa using hb
      subst e
      exact I1.fpOk (Nat.le_refl _) (I1.hok.fresh (Nat.le_refl _))
  | false =>
    refine wpAny_pyIter_longrange (IsRange.new ..) hs ?_
    refine ⟨(s.heap.push { cls := .type "range", data := .fields #[.int lo t, .int hi u, .int 1 v] }).objs.size, [(s.heap.push { cls := .type "range", data := .fields #[.int lo t, .int hi u, .int 1 v] }).objs.size], _, _, H, rfl,
      I1.kept (t' := tk) fun b o e => Heap.get?_push_of_some _ e, turn_long _ lo (hi - lo).toNat, ?_, fun b hb => ?_, q⟩
    · show IsLongIter _ _ (lo + ((0 : Nat) : Int) * 1) ((((hi - lo).toNat : Nat) : Int) - ((0 : Nat) : Int)) 1
      rw [e1, e2]
      exact Heap.get?_push_size _ rfl
    · have e : b = (s.heap.push { cls := .type "range", data := .fields #[.int lo t, .int hi u, .int 1 v] }).objs.size := by simpa using hb
      subst e
      exact I1.fpOk (Nat.le_refl _) (I1.hok.fresh (Nat.le_refl _))
def iRngW1 (ta : TA) : TI := fun σ H R => ta σ H fun vs H1 => ∃ j : Int, vs = [.int j] ∧ R (Itr 0 j.toNat) H1
theorem pi_rangeW1 {a : Expr} {ta : TA} {p pos : Pos} (hg : Gl X "range") (hm : X.mg "range" = none) (ha : PA X [a] ta) (hs : starEach [a] X.env = [(false, eval a X.env)] := by rfl) : PI X tg (.Call (.Name "range" p) [a] [] pos) (iRngW1 ta) := by
  refine ⟨fun pins s σ H R I h => ?_⟩
  refine Call_ (ld_blt I hg hm boot_range (PyProof.Rows.callWith_type1 (thn (ha.run pos pins s σ H _ I h) fun us s1 ⟨vs, H1, I1, r1, q1⟩ => ?_) hs rfl))
  obtain ⟨j, e, q⟩ := q1
  subst e
  cases r1 with
  | cons r rr =>
    cases rr
    obtain ⟨t, rfl⟩ := r
    exact call_range_1 (range_itW I1 (by simpa using q))
end
section
variable {K : PySem.W.Frag} {δ : List S}
theorem ei_rngW1 {n : Int} {tr : TA} (h : EA K tr δ [.int n]) : EI K (iRngW1 tr) δ (rg 0 n.toNat) := by
  intro He Ge H τo τs σ hl ok R q
  refine h He Ge H τo τs σ hl ok _ fun vs H1 G ok1 r1 => ?_
  cases r1 with
  | cons r1 r2 => cases r1; cases r2; exact ⟨n, rfl, q _ H1 G ok1 (jig_of (rp_ints _ _) jis_rng)⟩
end
end Far
namespace Far
open PySem L2
/-- what a run tells: nothing, an exception, or an answer -/
inductive M (α : Type) where
  | no | ex (c : Addr) (fs : List (Str × D)) | ok (a : α)
namespace M
variable {α β : Type}
def bind (m : M α) (f : α → M β) : M β := match m with | .no => .no | .ex c fs => .ex c fs | .ok a => f a
/-- .. where what lets out is not covered -/
def bin (m : M α) (f : α → M β) : M β := match m with | .ok a => f a | _ => .no
def of : Option α → M α | some a => .ok a | none => .no
theorem ok_bind {a : α} {f : α → M β} : (M.ok a).bind f = f a := rfl
theorem ok_bin {a : α} {f : α → M β} : (M.ok a).bin f = f a := rfl
theorem no_bin {f : α → M β} : M.no.bin f = .no := rfl
theorem of_some {a : α} : M.of (some a) = .ok a := rfl
end M
/-- what a statement tells -/
inductive Fl where
  | no | nx (δ : List S) | rt (s : S) | rto (s : S) (δ : List S) | bk (δ : List S) | ct (δ : List S) | ex (δ : List S) (c : Addr) (fs : List (Str × D))
def Fl.next (r : Fl) (f : List S → Fl) : Fl := match r with | .nx δ => f δ | r => r
def Fl.exp {α : Type} (m : M α) (δ : List S) (f : α → Fl) : Fl := match m with | .no => .no | .ex c fs => .ex δ c fs | .ok a => f a
def Fl.exn {α : Type} (m : M α) (f : α → Fl) : Fl := match m with | .ok a => f a | _ => .no
theorem Fl.ok_exp {α : Type} {a : α} {δ : List S} {f : α → Fl} : Fl.exp (.ok a) δ f = f a := rfl
theorem Fl.ok_exn {α : Type} {a : α} {f : α → Fl} : Fl.exn (.ok a) f = f a := rfl
def toD : S → M D | .d x => .ok x | .own xs => .ok (.lst xs) | .okd kvs => .ok (.dK kvs) | .oko kvs => .ok (.dO kvs) | _ => .no
theorem toD_d {x : D} : toD (.d x) = .ok x := rfl
section
variable (K : PySem.W.Frag)
def EVF (W : WX) (te : TE) (δ : List S) : M S → Prop
  | .no => True | .ex c fs => EX K (WE W) te δ c fs | .ok s => EV K te δ s
def EAF (W : WX) (ta : TA) (δ : List S) : M (List D) → Prop
  | .no => True | .ex c fs => EXA K (WE W) ta δ c fs | .ok xs => EA K ta δ xs
def EBF (tt : TT) (δ : List S) : M Bool → Prop
  | .ok b => EB K tt δ b | _ => True
def EIF (ti : TI) (δ : List S) : M (List D) → Prop
  | .ok xs => EI K ti δ xs | _ => True
def EOF (to : TO) (δ : List S) : M (Option Int) → Prop
  | .ok o => EO K to δ o | _ => True
def ETF (g : TG) (δ : List S) (x : D) : Option (List S) → Prop
  | some δ' => ET K g δ x δ' | none => True
def ETsF (g : TGs) (δ : List S) (xs : List D) : Option (List S) → Prop
  | some δ' => ETs K g δ xs δ' | none => True
/-- a statement comes to r -/
def SDR (W : WX) (t : TS) (δ : List S) (r : Fl) : Prop := SD K W t δ (fun δ' => r = .nx δ') (fun s δ' => r = .rt s ∨ r = .rto s δ') (fun δ' => r = .bk δ') (fun δ' => r = .ct δ') (fun δ' c fs => r = .ex δ' c fs)
def SDF (W : WX) (t : TS) (δ : List S) : Fl → Prop
  | .no => True | r => SDR K W t δ r
end
variable (Hy : PySem.W.Frag → Prop)
structure SE where
  t : PySem.W.Frag → WX → TE
  f : List S → M S
  ok : ∀ K, Hy K → ∀ W δ, EVF K W (t K W) δ (f δ)
structure SA where
  t : PySem.W.Frag → WX → TA
  f : List S → M (List D)
  ok : ∀ K, Hy K → ∀ W δ, EAF K W (t K W) δ (f δ)
structure ST where
  t : PySem.W.Frag → WX → TT
  f : List S → M Bool
  ok : ∀ K, Hy K → ∀ W δ, EBF K (t K W) δ (f δ)
structure SI where
  t : PySem.W.Frag → WX → TI
  f : List S → M (List D)
  ok : ∀ K, Hy K → ∀ W δ, EIF K (t K W) δ (f δ)
structure SO where
  t : PySem.W.Frag → WX → TO
  f : List S → M (Option Int)
  ok : ∀ K, Hy K → ∀ W δ, EOF K (t K W) δ (f δ)
structure SG where
  t : PySem.W.Frag → WX → TG
  ix : List Nat
  f : List S → D → Option (List S)
  ok : ∀ K, Hy K → ∀ W δ x, ETF K (t K W) δ x (f δ x)
  gok : ∀ K W vs, (∀ i ∈ ix, i ∈ vs) → GOk (t K W) vs
structure SGs where
  t : PySem.W.Frag → WX → TGs
  ix : List Nat
  n : Nat
  f : List S → List D → Option (List S)
  ok : ∀ K, Hy K → ∀ W δ xs, ETsF K (t K W) δ xs (f δ xs)
  len : ∀ δ xs δ', f δ xs = some δ' → xs.length = n
  gok : ∀ K W vs, (∀ i ∈ ix, i ∈ vs) → GsOk (t K W) vs
structure SS where
  t : PySem.W.Frag → WX → TS
  f : List S → Fl
  ok : ∀ K, Hy K → ∀ W δ, SDF K W (t K W) δ (f δ)
/-- an operation of two places -/
structure O2 where
  r : PySem.W.Frag → R2
  f : D → D → Option S
  ok : ∀ K x y s, f x y = some s → RV2 K (r K) x y s
structure O1 where
  r : PySem.W.Frag → V → Hp → VK → Prop
  f : D → Option S
  ok : ∀ K x s, f x = some s → RV1 K (r K) x s
/-- a builtin function -/
structure OB where
  r : PySem.W.Frag → List V → Hp → VK → Prop
  f : List D → Option S
  ok : ∀ K, Hy K → ∀ xs s, f xs = some s → RVN K (r K) xs s
variable {Hy}
section
variable {K : PySem.W.Frag} {δ : List S} {te ta tb : TE} {tr : TA} {x y z : D} {s : S} {xs : List D} {fs : List (Str × D)} {C : Addr} {R : List D → Out → Prop} {E : L2.St → XK} {c : Addr} {cf : List (Str × D)} {W : WX}
theorem ev_toD (h : EV K te δ s) (e : toD s = .ok x) : EV K te δ (.d x) := by
  cases s with
  | d y => cases e; exact h
  | own ys => cases e; exact ev_frz h
  | okd ys => cases e; exact ev_frzK h
  | okt ys => cases e
  | oko ys => cases e; exact ev_frzO h
  | _ => cases e
theorem toD_ne {s : S} {c : Addr} {fs : List (Str × D)} : toD s ≠ .ex c fs := by cases s <;> exact fun z => nomatch z
/-- an expression's datum -/
def SE.fd (e : SE Hy) (δ : List S) : M D := (e.f δ).bind toD
theorem SE.okD (e : SE Hy) (hk : Hy K) {W : WX} (h : e.fd δ = .ok x) : EV K (e.t K W) δ (.d x) := by
  have z := e.ok K hk W δ
  unfold SE.fd at h
  cases q : e.f δ with
  | no => rw [q] at h; cases h
  | ex c fs => rw [q] at h; cases h
  | ok s => rw [q] at h z; exact ev_toD z h
theorem SE.exD (e : SE Hy) (hk : Hy K) {W : WX} (h : e.fd δ = .ex c cf) : EX K (WE W) (e.t K W) δ c cf := by
  have z := e.ok K hk W δ
  unfold SE.fd at h
  cases q : e.f δ with
  | no => rw [q] at h; cases h
  | ex c fs => rw [q] at h z; cases h; exact z
  | ok s => rw [q] at h; exact (toD_ne h).elim
theorem SE.okS (e : SE Hy) (hk : Hy K) {W : WX} (h : e.f δ = .ok s) : EV K (e.t K W) δ s := by
  have z := e.ok K hk W δ; rw [h] at z; exact z
theorem SE.exS (e : SE Hy) (hk : Hy K) {W : WX} (h : e.f δ = .ex c cf) : EX K (WE W) (e.t K W) δ c cf := by
  have z := e.ok K hk W δ; rw [h] at z; exact z
theorem SA.okA (e : SA Hy) (hk : Hy K) {W : WX} (h : e.f δ = .ok xs) : EA K (e.t K W) δ xs := by
  have z := e.ok K hk W δ; rw [h] at z; exact z
theorem SA.exA (e : SA Hy) (hk : Hy K) {W : WX} (h : e.f δ = .ex c cf) : EXA K (WE W) (e.t K W) δ c cf := by
  have z := e.ok K hk W δ; rw [h] at z; exact z
theorem ST.okB (e : ST Hy) (hk : Hy K) {W : WX} {b : Bool} (h : e.f δ = .ok b) : EB K (e.t K W) δ b := by
  have z := e.ok K hk W δ; rw [h] at z; exact z
theorem SI.okI (e : SI Hy) (hk : Hy K) {W : WX} (h : e.f δ = .ok xs) : EI K (e.t K W) δ xs := by
  have z := e.ok K hk W δ; rw [h] at z; exact z
theorem SO.okO (e : SO Hy) (hk : Hy K) {W : WX} {o : Option Int} (h : e.f δ = .ok o) : EO K (e.t K W) δ o := by
  have z := e.ok K hk W δ; rw [h] at z; exact z
theorem SG.okG (g : SG Hy) (hk : Hy K) {W : WX} {δ' : List S} (h : g.f δ x = some δ') : ET K (g.t K W) δ x δ' := by
  have z := g.ok K hk W δ x; rw [h] at z; exact z
theorem ex_cb {r : List V → Hp → VK → Prop} (h : EXA K E tr δ c cf) : EX K E (tCB r tr) δ c cf := fun He Ge H τo τs σ hl ok k Q => h He Ge H τo τs σ hl ok k _
theorem ex_un {r : V → Hp → VK → Prop} (h : EX K E ta δ c cf) : EX K E (tUn r ta) δ c cf := fun He Ge H τo τs σ hl ok k Q => h He Ge H τo τs σ hl ok k _
theorem ex_tup (h : EXA K E tr δ c cf) : EX K E (tTupP tr) δ c cf := fun He Ge H τo τs σ hl ok k Q => h He Ge H τo τs σ hl ok k _
theorem ex_lst (h : EXA K E tr δ c cf) : EX K E (tLst tr) δ c cf := fun He Ge H τo τs σ hl ok k Q => h He Ge H τo τs σ hl ok k _
theorem ex_fld {f : Str} (h : EX K E ta δ c cf) : EX K E (tFld K ta f) δ c cf := fun He Ge H τo τs σ hl ok k Q => h He Ge H τo τs σ hl ok k _
theorem ex_methO {m : Str} {sp : Sp} {E' : L2.St → XK} (h : EX K E ta δ c cf) : EX K E (tMethS C m sp E' ta tr) δ c cf := fun He Ge H τo τs σ hl ok k Q => h He Ge H τo τs σ hl ok k _
theorem ex_methA {m : Str} {sp : Sp} {E' : L2.St → XK} (h0 : EV K ta δ (.d (.ins C fs))) (hm : fs.lookup m = none) (h : EXA K E tr δ c cf) : EX K E (tMethS C m sp E' ta tr) δ c cf := by
  intro He Ge H τo τs σ hl ok k Q
  refine h0 He Ge H τo τs σ hl ok _ fun v H1 ok1 => ?_
  obtain ⟨G1, ok1⟩ := ok1
  obtain ⟨_, e1, r1⟩ := ok1.top
  cases e1
  cases r1 with
  | ins hp rf =>
    refine ⟨_, _, _, rfl, ok1.gh _ _ hp, rf.nolook hm, ?_⟩
    exact h He Ge H1 (some _ :: τo) (.d (.ins C fs) :: τs) σ (by simp [hl]) ⟨G1, ok1⟩ (fun cls d G' H' ok' x => k cls d G' H' ok'.pop x) _
theorem ex_callL {sp : Sp} {E' : XK} (h : EXA K E tr δ c cf) : EX K E (tCall sp [] E' tr) δ c cf := fun He Ge H τo τs σ hl ok k Q => h He Ge H τo τs σ hl ok k _
theorem ex_callA' {sp : Sp} {E' : L2.St → XK} (h : EXA K E tr δ c cf) : EX K E (tCallS sp E' tr) δ c cf := fun He Ge H τo τs σ hl ok k Q => h He Ge H τo τs σ hl ok k _
theorem ex_makeA' {sp : Sp} {E' : L2.St → XK} (h : EXA K E tr δ c cf) : EX K E (tMakeS C sp E' tr) δ c cf := fun He Ge H τo τs σ hl ok k Q => h He Ge H τo τs σ hl ok k _
theorem ex_if {t : TT} {b : Bool} (h : EB K t δ b) (h1 : b = true → EX K E ta δ c cf) (h2 : b = false → EX K E tb δ c cf) : EX K E (tIf t ta tb) δ c cf := by
  intro He Ge H τo τs σ hl ok k Q
  refine h He Ge H τo τs σ hl ok _ fun H1 ok1 => ?_
  cases b with
  | true => exact iteT (h1 rfl He Ge H1 τo τs σ hl ok1 k Q)
  | false => exact iteF (h2 rfl He Ge H1 τo τs σ hl ok1 k Q)
end
section
variable {x y : D}
/-- a slot's datum -/
def gt : List S → Nat → M S
  | .d x :: _, 0 => .ok (.d x)
  | _ :: l, i + 1 => gt l i
  | _, _ => .no
theorem gt_s {l : List S} {s : S} {i : Nat} : gt (s :: l) (i + 1) = gt l i := by cases s <;> rfl
theorem gt_ok : ∀ {δ : List S} {i : Nat} {s : S}, gt δ i = .ok s → ∃ x, s = .d x ∧ δ[i]? = some (.d x)
  | [], i, s, h => by cases i <;> cases h
  | a :: l, 0, s, h => by cases a <;> cases h; exact ⟨_, rfl, rfl⟩
  | a :: l, i + 1, s, h => by rw [gt_s] at h; obtain ⟨x, e, q⟩ := gt_ok h; exact ⟨x, e, by simpa using q⟩
theorem gt_nex : ∀ {δ : List S} {i : Nat} {c : Addr} {fs : List (Str × D)}, gt δ i ≠ .ex c fs
  | [], i, _, _ => by cases i <;> exact fun z => nomatch z
  | a :: l, 0, _, _ => by cases a <;> exact fun z => nomatch z
  | a :: l, i + 1, _, _ => by rw [gt_s]; exact gt_nex
def SE.var (i : Nat) : SE Hy where
  t _ _ := tVar i
  f δ := gt δ i
  ok K hk W δ := by
    cases h : gt δ i with
    | no => trivial
    | ex c fs => exact (gt_nex h).elim
    | ok s => obtain ⟨x, rfl, e⟩ := gt_ok h; exact ev_var e
def SE.int (i : Int) : SE Hy := ⟨fun _ _ => tC (.int i), fun _ => .ok (.d (.int i)), fun _ _ _ _ => ev_int⟩
def SE.bl (i : Bool) : SE Hy := ⟨fun _ _ => tC (.bl i), fun _ => .ok (.d (.bl i)), fun _ _ _ _ => ev_bl⟩
def SE.str (i : Str) : SE Hy := ⟨fun _ _ => tC (.str i), fun _ => .ok (.d (.str i)), fun _ _ _ _ => ev_str⟩
def SE.non : SE Hy := ⟨fun _ _ => tC .non, fun _ => .ok (.d .non), fun _ _ _ _ => ev_non⟩
def SE.ty (n : String) : SE Hy := ⟨fun _ _ => tC (.ty n), fun _ => .ok (.d (.ty n)), fun _ _ _ _ => ev_ty⟩
def SE.cls (a : Addr) : SE Hy := ⟨fun _ _ => tC (.ref a), fun _ => .ok (.d (.cls a)), fun _ _ _ _ => ev_cls⟩
def SA.nil : SA Hy := ⟨fun _ _ => tNil, fun _ => .ok [], fun _ _ _ _ => ea_nil⟩
def SA.cons (e : SE Hy) (r : SA Hy) : SA Hy where
  t K W := tCons (e.t K W) (r.t K W)
  f δ := (e.fd δ).bind fun x => (r.f δ).bind fun xs => .ok (x :: xs)
  ok K hk W δ := by
    cases h : e.fd δ with
    | no => trivial
    | ex c fs => exact exa_head (e.exD hk h)
    | ok x =>
      cases h2 : r.f δ with
      | no => rw [M.ok_bind]; trivial
      | ex c fs => rw [M.ok_bind]; exact exa_tail (e.okD hk h) (r.exA hk h2)
      | ok xs => rw [M.ok_bind]; exact ea_cons (e.okD hk h) (r.okA hk h2)
def SE.op (o : O2) (a b : SE Hy) : SE Hy where
  t K W := tOp (o.r K) (a.t K W) (b.t K W)
  f δ := (a.fd δ).bind fun x => (b.fd δ).bind fun y => .of (o.f x y)
  ok K hk W δ := by
    cases h : a.fd δ with
    | no => trivial
    | ex c fs => exact ex_op1 (a.exD hk h)
    | ok x =>
      rw [M.ok_bind]
      cases h2 : b.fd δ with
      | no => trivial
      | ex c fs => exact ex_op2 (a.okD hk h) (b.exD hk h2)
      | ok y =>
        rw [M.ok_bind]
        cases h3 : o.f x y with
        | none => trivial
        | some s => exact ev_op (a.okD hk h) (b.okD hk h2) (o.ok K x y s h3)
def SE.un (o : O1) (a : SE Hy) : SE Hy where
  t K W := tUn (o.r K) (a.t K W)
  f δ := (a.fd δ).bind fun x => .of (o.f x)
  ok K hk W δ := by
    cases h : a.fd δ with
    | no => trivial
    | ex c fs => exact ex_un (a.exD hk h)
    | ok x =>
      rw [M.ok_bind]
      cases h3 : o.f x with
      | none => trivial
      | some s => exact ev_un (a.okD hk h) (o.ok K x s h3)
def SE.cb (o : OB Hy) (a : SA Hy) : SE Hy where
  t K W := tCB (o.r K) (a.t K W)
  f δ := (a.f δ).bind fun xs => .of (o.f xs)
  ok K hk W δ := by
    cases h : a.f δ with
    | no => trivial
    | ex c fs => exact ex_cb (a.exA hk h)
    | ok x =>
      rw [M.ok_bind]
      cases h3 : o.f x with
      | none => trivial
      | some s => exact ev_cb (a.okA hk h) (o.ok K hk x s h3)
def SE.tup (a : SA Hy) : SE Hy where
  t K W := tTupP (a.t K W)
  f δ := (a.f δ).bind fun xs => if xs.length ≤ sizeLine then .ok (.d (.tup xs)) else .no
  ok K hk W δ := by
    cases h : a.f δ with
    | no => trivial
    | ex c fs => exact ex_tup (a.exA hk h)
    | ok x =>
      rw [M.ok_bind]
      by_cases z : x.length ≤ sizeLine
      · rw [if_pos z]; exact ev_tup (a.okA hk h) z
      · rw [if_neg z]; trivial
def SE.lst (a : SA Hy) : SE Hy where
  t K W := tLst (a.t K W)
  f δ := (a.f δ).bind fun xs => if xs.length ≤ sizeLine then .ok (.own xs) else .no
  ok K hk W δ := by
    cases h : a.f δ with
    | no => trivial
    | ex c fs => exact ex_lst (a.exA hk h)
    | ok x =>
      rw [M.ok_bind]
      by_cases z : x.length ≤ sizeLine
      · rw [if_pos z]; exact ev_lst (a.okA hk h) z
      · rw [if_neg z]; trivial
def RF (F : List D → M S) (xs : List D) (out : Out) : Prop := (∃ s, F xs = .ok s ∧ out = .ret s) ∨ ∃ c cf, F xs = .ex c cf ∧ out = .exc c cf
def RI (C : Addr) (F : Addr → List D → M (List (Str × D))) (xs : List D) (out : Out) : Prop := (∃ fs, (∀ x, F x xs = .ok fs) ∧ out = .ret (.d (.ins C fs))) ∨ ∃ c cf, (∀ x, F x xs = .ex c cf) ∧ out = .exc c cf
open Classical in
/-- a constructor's run: the same whatever the new object's place -/
noncomputable def mkR (F : Addr → List D → M (List (Str × D))) (xs : List D) : M (List (Str × D)) := if ∀ x, F x xs = F 0 xs then F 0 xs else .no
theorem mkR_eq {F : Addr → List D → M (List (Str × D))} {xs : List D} {r : M (List (Str × D))} (h : ∀ x, F x xs = r) : mkR F xs = r := by
  unfold mkR; rw [if_pos (fun x => (h x).trans (h 0).symm)]; exact h 0
theorem mkR_ok {F : Addr → List D → M (List (Str × D))} {xs : List D} {r : M (List (Str × D))} (h : mkR F xs = r) (n : r ≠ .no) : ∀ x, F x xs = r := by
  unfold mkR at h
  split at h
  · rename_i q; intro x; rw [q x]; exact h
  · exact (n h.symm).elim
def SE.call (F : List D → M S) (a : SA Hy) : SE Hy where
  t K W := tCall (spD K (RF F)) [] E0 (a.t K W)
  f δ := (a.f δ).bind fun xs => (F xs).bin .ok
  ok K hk W δ := by
    cases h : a.f δ with
    | no => trivial
    | ex c fs => exact ex_callL (a.exA hk h)
    | ok xs =>
      rw [M.ok_bind]
      cases h2 : F xs with
      | ok s => exact ev_call (a.okA hk h) (.inl ⟨s, h2, rfl⟩)
      | _ => trivial
def SE.callX (F : List D → M S) (a : SA Hy) : SE Hy where
  t K W := tCallS (spD K (RF F)) (WE W) (a.t K W)
  f δ := (a.f δ).bind F
  ok K hk W δ := by
    cases h : a.f δ with
    | no => trivial
    | ex c fs => exact ex_callA' (a.exA hk h)
    | ok xs =>
      rw [M.ok_bind]
      cases h2 : F xs with
      | no => trivial
      | ok s => exact ev_callS (a.okA hk h) (.inl ⟨s, h2, rfl⟩)
      | ex c cf => exact ex_callS (a.okA hk h) (.inr ⟨c, cf, h2, rfl⟩)
noncomputable def SE.make (C : Addr) (F : Addr → List D → M (List (Str × D))) (a : SA Hy) : SE Hy where
  t K W := tMakeS C (spI K C (RI C F)) (fun _ => E0) (a.t K W)
  f δ := (a.f δ).bind fun xs => (mkR F xs).bin fun fs => .ok (.d (.ins C fs))
  ok K hk W δ := by
    cases h : a.f δ with
    | no => trivial
    | ex c fs => exact ex_makeA' (a.exA hk h)
    | ok xs =>
      rw [M.ok_bind]
      cases h2 : mkR F xs with
      | ok fs => exact ev_makeS (a.okA hk h) (.inl ⟨fs, mkR_ok h2 (fun z => nomatch z), rfl⟩)
      | _ => trivial
/-- an instance of C without an attribute m of its own -/
def ofC (C : Addr) (m : Str) : D → Bool
  | .ins C' fs => decide (C' = C) && (fs.lookup m).isNone
  | _ => false
theorem ofC_to {C : Addr} {m : Str} {x : D} (h : ofC C m x = true) : ∃ fs, x = .ins C fs ∧ fs.lookup m = none := by
  cases x with
  | ins C' fs =>
    unfold ofC at h
    rw [Bool.and_eq_true, decide_eq_true_eq] at h
    obtain ⟨rfl, h⟩ := h
    refine ⟨fs, rfl, ?_⟩
    cases e : fs.lookup m with
    | none => rfl
    | some v => rw [e] at h; cases h
  | _ => exact (nomatch h)
def SE.meth (C : Addr) (m : Str) (F : List D → M S) (o : SE Hy) (a : SA Hy) : SE Hy where
  t K W := tMethS C m (spD K (RF F)) (fun _ => E0) (o.t K W) (a.t K W)
  f δ := (o.fd δ).bind fun x => if ofC C m x = true then (a.f δ).bind fun xs => (F (x :: xs)).bin .ok else .no
  ok K hk W δ := by
    cases h : o.fd δ with
    | no => trivial
    | ex c fs => exact ex_methO (o.exD hk h)
    | ok x =>
      rw [M.ok_bind]
      by_cases z : ofC C m x = true
      · rw [if_pos z]
        obtain ⟨fs, rfl, hm⟩ := ofC_to z
        cases h1 : a.f δ with
        | no => trivial
        | ex c cf => exact ex_methA (o.okD hk h) hm (a.exA hk h1)
        | ok xs =>
          rw [M.ok_bind]
          cases h2 : F (.ins C fs :: xs) with
          | ok s => exact ev_methS (o.okD hk h) hm (a.okA hk h1) (.inl ⟨s, h2, rfl⟩)
          | _ => trivial
      · rw [if_neg z]; trivial
/-- the classes of which the field f is known -/
def FldOk (Hy : PySem.W.Frag → Prop) (f : Str) (Cs : List Addr) : Prop := ∀ K, Hy K → ∀ C ∈ Cs, Cls K C ∧ NoAttr K C f
theorem fo_nil {f : Str} : FldOk Hy f [] := fun _ _ _ h => nomatch h
theorem fo_cons {f : Str} {C : Addr} {Cs : List Addr} (h : ∀ K, Hy K → Cls K C ∧ NoAttr K C f) (r : FldOk Hy f Cs) : FldOk Hy f (C :: Cs) := fun K hk D hD => by
  rcases List.mem_cons.mp hD with rfl | z
  · exact h K hk
  · exact r K hk D z
def fldF (Cs : List Addr) (f : Str) : D → Option D
  | .ins C fs => if C ∈ Cs then fs.lookup f else none
  | _ => none
def SE.fld (f : Str) (Cs : List Addr) (h : FldOk Hy f Cs) (o : SE Hy) : SE Hy where
  t K W := tFld K (o.t K W) f
  f δ := (o.fd δ).bind fun x => (M.of (fldF Cs f x)).bin fun y => .ok (.d y)
  ok K hk W δ := by
    cases h0 : o.fd δ with
    | no => trivial
    | ex c fs => exact ex_fld (o.exD hk h0)
    | ok x =>
      rw [M.ok_bind]
      cases h1 : fldF Cs f x with
      | none => trivial
      | some y =>
        cases x <;> simp only [fldF] at h1 <;> try (cases h1; done)
        rename_i C fs
        by_cases z : C ∈ Cs
        · rw [if_pos z] at h1
          obtain ⟨c, n⟩ := h K hk C z
          exact ev_fld (o.okD hk h0) c n h1
        · rw [if_neg z] at h1; cases h1
def tru : D → Option Bool
  | .non => some false | .bl b => some b | .int i => some (i != 0) | .str x => if x.length ≤ sizeLine then some ((x.length : Int) != 0) else none
  | .lst xs => some (!xs.isEmpty) | .tup xs => some (!xs.isEmpty) | _ => none
theorem tru_ok {b : Bool} (h : tru x = some b) : TrD x b := by
  cases x <;> simp only [tru] at h <;> try (cases h; done)
  · cases h; exact .non
  · cases h; exact .bl _
  · cases h; exact .int _
  · split at h
    · rename_i z; cases h; exact .str _ z
    · cases h
  · cases h; exact .tup _
  · cases h; exact .lst _
def SE.orE (a b : SE Hy) : SE Hy where
  t K W := tOrT K (a.t K W) (b.t K W)
  f δ := (a.fd δ).bin fun x => (M.of (tru x)).bin fun k => if k = true then .ok (.d x) else (b.f δ).bin .ok
  ok K hk W δ := by
    cases h : a.fd δ with
    | ok x =>
      rw [M.ok_bin]
      cases h1 : tru x with
      | none => trivial
      | some k =>
        rw [M.of_some, M.ok_bin]
        cases k with
        | true => rw [if_pos rfl]; exact ev_is (ev_orT (s2 := .un) (a.okD hk h) (tru_ok h1) fun z => nomatch z) rfl
        | false =>
          rw [if_neg (fun z => nomatch z)]
          cases h2 : b.f δ with
          | ok s => exact ev_is (ev_orT (a.okD hk h) (tru_ok h1) fun _ => b.okS hk h2) rfl
          | _ => trivial
    | _ => trivial
def SE.andE (a b : SE Hy) : SE Hy where
  t K W := tAndT K (a.t K W) (b.t K W)
  f δ := (a.fd δ).bin fun x => (M.of (tru x)).bin fun k => if k = true then (b.f δ).bin .ok else .ok (.d x)
  ok K hk W δ := by
    cases h : a.fd δ with
    | ok x =>
      rw [M.ok_bin]
      cases h1 : tru x with
      | none => trivial
      | some k =>
        rw [M.of_some, M.ok_bin]
        cases k with
        | false => rw [if_neg (fun z => nomatch z)]; exact ev_is (ev_andT (s2 := .un) (a.okD hk h) (tru_ok h1) fun z => nomatch z) rfl
        | true =>
          rw [if_pos rfl]
          cases h2 : b.f δ with
          | ok s => exact ev_is (ev_andT (a.okD hk h) (tru_ok h1) fun _ => b.okS hk h2) rfl
          | _ => trivial
    | _ => trivial
def SE.notE (a : SE Hy) : SE Hy where
  t K W := tNotT K (a.t K W)
  f δ := (a.fd δ).bin fun x => (M.of (tru x)).bin fun k => .ok (.d (.bl (!k)))
  ok K hk W δ := by
    cases h : a.fd δ with
    | ok x =>
      rw [M.ok_bin]
      cases h1 : tru x with
      | none => trivial
      | some k => exact ev_notT (a.okD hk h) (tru_ok h1)
    | _ => trivial
def SE.ifE (c : ST Hy) (a b : SE Hy) : SE Hy where
  t K W := tIf (c.t K W) (a.t K W) (b.t K W)
  f δ := (c.f δ).bin fun k => if k = true then a.f δ else b.f δ
  ok K hk W δ := by
    cases h : c.f δ with
    | ok k =>
      rw [M.ok_bin]
      cases k with
      | true =>
        rw [if_pos rfl]
        cases h2 : a.f δ with
        | no => trivial
        | ok s => exact ev_ifT (c.okB hk h) (a.okS hk h2)
        | ex e cf => exact ex_if (c.okB hk h) (fun _ => a.exS hk h2) fun z => nomatch z
      | false =>
        rw [if_neg (fun z => nomatch z)]
        cases h2 : b.f δ with
        | no => trivial
        | ok s => exact ev_ifF (c.okB hk h) (b.okS hk h2)
        | ex e cf => exact ex_if (c.okB hk h) (fun z => nomatch z) fun _ => b.exS hk h2
    | _ => trivial
def asB : S → M Bool | .d (.bl b) => .ok b | _ => .no
def ST.of (e : SE Hy) : ST Hy where
  t K W := tTest (e.t K W)
  f δ := (e.f δ).bin asB
  ok K hk W δ := by
    cases h : e.f δ with
    | ok s =>
      rw [M.ok_bin]
      cases h1 : asB s with
      | ok b =>
        have : s = .d (.bl b) := by
          cases s with
          | d x => cases x <;> cases h1; rfl
          | _ => cases h1
        subst this
        exact eb_test (e.okS hk h)
      | _ => trivial
    | _ => trivial
def ST.tru (e : SE Hy) : ST Hy where
  t K W := tTru K (e.t K W)
  f δ := (e.fd δ).bin fun x => .of (Far.tru x)
  ok K hk W δ := by
    cases h : e.fd δ with
    | ok x =>
      rw [M.ok_bin]
      cases h1 : Far.tru x with
      | none => trivial
      | some b => exact eb_tru (e.okD hk h) (tru_ok h1)
    | _ => trivial
def ST.not (c : ST Hy) : ST Hy where
  t K W := tNot (c.t K W)
  f δ := (c.f δ).bin fun b => .ok (!b)
  ok K hk W δ := by
    cases h : c.f δ with
    | ok b => exact eb_not (c.okB hk h)
    | _ => trivial
def ST.and (c e : ST Hy) : ST Hy where
  t K W := tAnd (c.t K W) (e.t K W)
  f δ := (c.f δ).bin fun b => if b = true then (e.f δ).bin .ok else .ok false
  ok K hk W δ := by
    cases h : c.f δ with
    | ok b =>
      rw [M.ok_bin]
      cases b with
      | false => rw [if_neg (fun z => nomatch z)]; exact eb_andF (c.okB hk h)
      | true =>
        rw [if_pos rfl]
        cases h2 : e.f δ with
        | ok k => exact eb_is (eb_and (c.okB hk h) fun _ => e.okB hk h2) (by cases k <;> rfl)
        | _ => trivial
    | _ => trivial
def ST.or (c e : ST Hy) : ST Hy where
  t K W := tOr (c.t K W) (e.t K W)
  f δ := (c.f δ).bin fun b => if b = true then .ok true else (e.f δ).bin .ok
  ok K hk W δ := by
    cases h : c.f δ with
    | ok b =>
      rw [M.ok_bin]
      cases b with
      | true => rw [if_pos rfl]; exact eb_orT (c.okB hk h)
      | false =>
        rw [if_neg (fun z => nomatch z)]
        cases h2 : e.f δ with
        | ok k => exact eb_is (eb_or (c.okB hk h) fun _ => e.okB hk h2) (by cases k <;> rfl)
        | _ => trivial
    | _ => trivial
def ST.yes : ST Hy := ⟨fun _ _ => tYes, fun _ => .ok true, fun _ _ _ _ => eb_yes⟩
def asBl : Option S → M Bool | some (.d (.bl b)) => .ok b | _ => .no
theorem asBl_to {o : Option S} {b : Bool} (h : asBl o = .ok b) : o = some (.d (.bl b)) := by
  cases o with
  | none => cases h
  | some s =>
    cases s with
    | d x => cases x <;> cases h; rfl
    | _ => cases h
def SE.chain (o p : O2) (a b c : SE Hy) : SE Hy where
  t K W := tChain (o.r K) (p.r K) (a.t K W) (b.t K W) (c.t K W)
  f δ := (a.fd δ).bin fun x => (b.fd δ).bin fun y => (asBl (o.f x y)).bin fun k => (c.fd δ).bin fun z => (asBl (p.f y z)).bin fun l => .ok (.d (.bl (k && l)))
  ok K hk W δ := by
    cases h1 : a.fd δ with
    | ok x =>
      cases h2 : b.fd δ with
      | ok y =>
        cases h3 : asBl (o.f x y) with
        | ok k =>
          cases h4 : c.fd δ with
          | ok z =>
            cases h5 : asBl (p.f y z) with
            | ok l =>
              simp only [M.ok_bin, h3, h5]
              exact ev_chain (a.okD hk h1) (b.okD hk h2) (o.ok K x y _ (asBl_to h3)) (c.okD hk h4) (p.ok K y z _ (asBl_to h5))
            | _ => simp only [M.ok_bin, h3, h5]; trivial
          | _ => simp only [M.ok_bin, h3]; trivial
        | _ => simp only [M.ok_bin, h3]; trivial
      | _ => trivial
    | _ => trivial
def SO.none : SO Hy := ⟨fun _ _ => tNoPart, fun _ => .ok .none, fun _ _ _ _ => eo_none⟩
def asI : D → M (Option Int) | .int i => .ok (some i) | _ => .no
def SO.some (e : SE Hy) : SO Hy where
  t K W := tPart (e.t K W)
  f δ := (e.fd δ).bin asI
  ok K hk W δ := by
    cases h : e.fd δ with
    | ok x =>
      rw [M.ok_bin]
      cases x with
      | int i => exact eo_some (e.okD hk h)
      | _ => trivial
    | _ => trivial
def cutF (x : D) (lo hi : Option Int) : M S := match x with
  | .lst xs => .ok (.own (cutD xs lo hi)) | .tup xs => .ok (.d (.tup (cutD xs lo hi))) | .str z => if z.length ≤ sizeLine then .ok (.d (.str (cutS z lo hi))) else .no | _ => .no
def SE.sl (a : SE Hy) (lo hi : SO Hy) : SE Hy where
  t K W := tSl (rSlU K) (a.t K W) (lo.t K W) (hi.t K W)
  f δ := (a.fd δ).bin fun x => (lo.f δ).bin fun l => (hi.f δ).bin fun h => cutF x l h
  ok K hk W δ := by
    cases h1 : a.fd δ with
    | ok x =>
      cases h2 : lo.f δ with
      | ok l =>
        cases h3 : hi.f δ with
        | ok h =>
          simp only [M.ok_bin]
          cases x with
          | lst xs => exact ev_slL (a.okD hk h1) (lo.okO hk h2) (hi.okO hk h3)
          | tup xs => exact ev_slT (a.okD hk h1) (lo.okO hk h2) (hi.okO hk h3)
          | str z =>
            show EVF K W _ δ (if _ then _ else _)
            by_cases q : z.length ≤ sizeLine
            · rw [if_pos q]; exact ev_slS (a.okD hk h1) (lo.okO hk h2) (hi.okO hk h3) q
            · rw [if_neg q]; trivial
          | _ => trivial
        | _ => trivial
      | _ => trivial
    | _ => trivial
end
end Far
namespace Far
open PySem L2
variable {Hy : PySem.W.Frag → Prop}
section
variable {K : PySem.W.Frag} {δ : List S} {te ta tb : TE} {tr : TA} {x y z : D} {s : S} {xs : List D} {fs : List (Str × D)} {C : Addr} {c : Addr} {cf : List (Str × D)} {W : WX}
def SI.seq (e : SE Hy) : SI Hy where
  t K W := iSeq K (e.t K W)
  f δ := (e.fd δ).bin fun x => match x with | .lst xs => .ok xs | .tup xs => .ok xs | _ => .no
  ok K hk W δ := by
    cases h : e.fd δ with
    | ok x =>
      rw [M.ok_bin]
      cases x with
      | lst xs => exact ei_seqL (e.okD hk h)
      | tup xs => exact ei_seqT (e.okD hk h)
      | _ => trivial
    | _ => trivial
def SI.tup (e : SE Hy) : SI Hy where
  t K W := iTup K (e.t K W)
  f δ := (e.fd δ).bin fun x => match x with | .tup xs => .ok xs | _ => .no
  ok K hk W δ := by
    cases h : e.fd δ with
    | ok x =>
      rw [M.ok_bin]
      cases x with
      | tup xs => exact ei_tup (e.okD hk h)
      | _ => trivial
    | _ => trivial
def SI.rng1 (a : SA Hy) : SI Hy where
  t K W := iRngW1 (a.t K W)
  f δ := (a.f δ).bin fun xs => match xs with | [.int n] => .ok (rg 0 n.toNat) | _ => .no
  ok K hk W δ := by
    cases h : a.f δ with
    | ok xs =>
      rw [M.ok_bin]
      split
      · exact ei_rngW1 (a.okA hk h)
      · trivial
    | _ => trivial
theorem et_seqU {n : Nat} {gs : TGs} {δ' : List S} (h : ETs K gs δ xs δ') (hn : xs.length = n) : ET K (gSeq K n gs) δ (.utp xs) δ' := fun He Ge H G τo τs σ v hl ok r Q q => .inl (et_utp h hn He Ge H G τo τs σ v hl ok r Q q)
def SG.name (i : Nat) : SG Hy where
  t _ _ := gName i
  ix := [i]
  f δ x := if i < δ.length then some (δ.set i (.d x)) else none
  ok K hk W δ x := by
    by_cases z : i < δ.length
    · simp only [if_pos z]; exact et_name z
    · simp only [if_neg z]; trivial
  gok K W vs h := gok_name (h i (List.mem_singleton.mpr rfl))
def SGs.nil : SGs Hy where
  t _ _ := gNil
  ix := []
  n := 0
  f δ xs := match xs with | [] => some δ | _ => none
  ok K hk W δ xs := by cases xs with
    | nil => exact .nil
    | cons => trivial
  len δ xs δ' h := by cases xs with
    | nil => rfl
    | cons => cases h
  gok K W vs h := gsok_nil
def SGs.cons (i : Nat) (r : SGs Hy) : SGs Hy where
  t K W := gCons (gName i) (r.t K W)
  ix := i :: r.ix
  n := r.n + 1
  f δ xs := match xs with | x :: xs => if i < δ.length then r.f (δ.set i (.d x)) xs else none | [] => none
  ok K hk W δ xs := by cases xs with
    | nil => trivial
    | cons x xs =>
      by_cases z : i < δ.length
      · simp only [if_pos z]
        have q := r.ok K hk W (δ.set i (.d x)) xs
        cases h : r.f (δ.set i (.d x)) xs with
        | none => trivial
        | some δ' => rw [h] at q; exact .cons (et_name z) q
      · simp only [if_neg z]; trivial
  len δ xs δ' h := by cases xs with
    | nil => cases h
    | cons x xs =>
      by_cases z : i < δ.length
      · simp only [if_pos z] at h; exact congrArg (· + 1) (r.len _ _ _ h)
      · simp only [if_neg z] at h; cases h
  gok K W vs h := gsok_name (h i (List.mem_cons_self ..)) (r.gok K W vs fun j hj => h j (List.mem_cons_of_mem _ hj))
def SG.seq (n : Nat) (r : SGs Hy) : SG Hy where
  t K W := gSeq K n (r.t K W)
  ix := r.ix
  f δ x := if r.n = n then (match x with | .tup xs => r.f δ xs | .utp xs => r.f δ xs | .lst xs => r.f δ xs | _ => none) else none
  ok K hk W δ x := by
    by_cases hn : r.n = n
    · rw [if_pos hn]
      cases x with
      | tup xs =>
        have q := r.ok K hk W δ xs
        show ETF K _ δ _ (r.f δ xs)
        cases h : r.f δ xs with
        | none => trivial
        | some δ' => rw [h] at q; exact et_seqT q ((r.len _ _ _ h).trans hn)
      | utp xs =>
        have q := r.ok K hk W δ xs
        show ETF K _ δ _ (r.f δ xs)
        cases h : r.f δ xs with
        | none => trivial
        | some δ' => rw [h] at q; exact et_seqU q ((r.len _ _ _ h).trans hn)
      | lst xs =>
        have q := r.ok K hk W δ xs
        show ETF K _ δ _ (r.f δ xs)
        cases h : r.f δ xs with
        | none => trivial
        | some δ' => rw [h] at q; exact et_seqL q ((r.len _ _ _ h).trans hn)
      | _ => trivial
    · rw [if_neg hn]; trivial
  gok K W vs h := gok_seq (r.gok K W vs h)
def lcF (st : D → M (Option D)) : List D → M (List D)
  | [] => .ok []
  | y :: r => (st y).bin fun o => (lcF st r).bin fun xs => .ok (match o with | some x => x :: xs | none => xs)
def stP (st : D → M (Option D)) (y : D) : Bool := match st y with | .ok (some _) => true | _ => false
def stV (st : D → M (Option D)) (y : D) : D := match st y with | .ok (some x) => x | _ => .non
theorem lcF_to {st : D → M (Option D)} : ∀ {ys xs : List D}, lcF st ys = .ok xs → (∀ y ∈ ys, ∃ o, st y = .ok o) ∧ xs = (ys.filter (stP st)).map (stV st)
  | [], xs, h => by
    cases h
    exact ⟨fun _ h => (nomatch h), rfl⟩
  | y :: r, xs, h => by
    unfold lcF at h
    cases e : st y with
    | ok o =>
      cases e2 : lcF st r with
      | ok zs =>
        rw [e, M.ok_bin, e2, M.ok_bin] at h
        obtain ⟨q1, q2⟩ := lcF_to e2
        refine ⟨fun w hw => ?_, ?_⟩
        · rcases List.mem_cons.mp hw with rfl | hw
          · exact ⟨o, e⟩
          · exact q1 w hw
        · cases o with
          | none =>
            have p : stP st y = false := by unfold stP; rw [e]
            rw [List.filter_cons, p]; cases h; exact q2
          | some x =>
            have p : stP st y = true := by unfold stP; rw [e]
            have v : stV st y = x := by unfold stV; rw [e]
            rw [List.filter_cons, p]; cases h
            show x :: zs = stV st y :: _
            rw [v, q2]
      | _ => rw [e, M.ok_bin, e2] at h; cases h
    | _ => rw [e] at h; cases h
/-- what a comprehension's block does with an item -/
def lcS (g : SG Hy) (c : ST Hy) (e : SE Hy) (δ : List S) (y : D) : M (Option D) := (M.of (g.f δ y)).bin fun δ2 => (c.f δ2).bin fun b => if b = true then (e.fd δ2).bin fun x => .ok (some x) else .ok none
def SE.lc (i : SI Hy) (g : SG Hy) (c : ST Hy) (e : SE Hy) (vs : List Nat) : SE Hy where
  t K W := tLc (i.t K W) (g.t K W) (c.t K W) (e.t K W) vs
  f δ := (i.f δ).bin fun ys => if g.ix.all (fun i => vs.contains i) = true ∧ ys.length ≤ sizeLine then (lcF (lcS g c e (hide δ vs)) ys).bin fun xs => .ok (.own xs) else .no
  ok K hk W δ := by
    cases h : i.f δ with
    | ok ys =>
      rw [M.ok_bin]
      by_cases zz : g.ix.all (fun i => vs.contains i) = true ∧ ys.length ≤ sizeLine
      · rw [if_pos zz]
        obtain ⟨hv, z⟩ := zz
        cases h2 : lcF (lcS g c e (hide δ vs)) ys with
        | ok xs =>
          obtain ⟨q1, rfl⟩ := lcF_to h2
          refine ev_lcF (i.okI hk h) (g.gok K W vs (fun i hi => by have := List.all_eq_true.mp hv i hi; simpa using this)) z fun y hy => ?_
          obtain ⟨o, ho⟩ := q1 y hy
          have ho' := ho
          unfold lcS at ho
          cases h3 : g.f (hide δ vs) y with
          | none => rw [h3] at ho; cases ho
          | some δ2 =>
            rw [h3, M.of_some, M.ok_bin] at ho
            refine ⟨δ2, g.okG hk h3, ?_⟩
            cases h4 : c.f δ2 with
            | ok b =>
              rw [h4, M.ok_bin] at ho
              cases b with
              | false =>
                rw [if_neg (fun z => nomatch z)] at ho
                cases ho
                have p : stP (lcS g c e (hide δ vs)) y = false := by unfold stP; rw [ho']
                rw [p]
                exact ⟨c.okB hk h4, fun z => nomatch z⟩
              | true =>
                rw [if_pos rfl] at ho
                cases h5 : e.fd δ2 with
                | ok x =>
                  rw [h5, M.ok_bin] at ho
                  cases ho
                  have p : stP (lcS g c e (hide δ vs)) y = true := by unfold stP; rw [ho']
                  have v : stV (lcS g c e (hide δ vs)) y = x := by unfold stV; rw [ho']
                  rw [p, v]
                  exact ⟨c.okB hk h4, fun _ => e.okD hk h5⟩
                | _ => rw [h5] at ho; cases ho
            | _ => rw [h4] at ho; cases ho
        | _ => trivial
      · rw [if_neg zz]; trivial
    | _ => trivial
theorem sdr_mono {N' B' C' : List S → Prop} {R' : S → List S → Prop} {X' : List S → Addr → List (Str × D) → Prop} {t : TS} {r : Fl} (h : SDR K W t δ r) (n : ∀ δ', r = .nx δ' → N' δ') (rt : ∀ s δ', r = .rt s → R' s δ') (b : ∀ δ', r = .bk δ' → B' δ') (c : ∀ δ', r = .ct δ' → C' δ') (x : ∀ δ' a fs, r = .ex δ' a fs → X' δ' a fs) (ro : ∀ s δ', r = .rto s δ' → R' s δ') : SD K W t δ N' R' B' C' X' := sd_mono h n (fun s δ' e => e.elim (rt s δ') (ro s δ')) b c x
theorem sdf_of {t : TS} {r : Fl} (h : r ≠ .no → SDR K W t δ r) : SDF K W t δ r := by
  cases r with
  | no => trivial
  | _ => exact h fun z => nomatch z
theorem sdf_to {t : TS} {r : Fl} (h : SDF K W t δ r) (n : r ≠ .no) : SDR K W t δ r := by
  cases r with
  | no => exact (n rfl).elim
  | _ => exact h
theorem SS.okR (s : SS Hy) (hk : Hy K) (n : s.f δ ≠ .no) : SDR K W (s.t K W) δ (s.f δ) := sdf_to (s.ok K hk W δ) n
def SS.skip : SS Hy := ⟨fun _ _ => tNext, fun δ => .nx δ, fun _ _ _ _ => sd_next rfl⟩
def SS.brk : SS Hy := ⟨fun _ _ => tBreak, fun δ => .bk δ, fun _ _ _ _ => sd_break rfl⟩
def SS.seq (a b : SS Hy) : SS Hy where
  t K W := tSeq (a.t K W) (b.t K W)
  f δ := (a.f δ).next b.f
  ok K hk W δ := by
    refine sdf_of fun n => sd_seq ?_
    have na : a.f δ ≠ .no := fun z => n (by rw [z]; rfl)
    refine sdr_mono (a.okR hk na) (fun δ' e => ?_) (fun s _ e => by rw [e]; exact .inl rfl) (fun δ' e => by rw [e]; rfl) (fun δ' e => by rw [e]; rfl) (fun δ' c fs e => by rw [e]; rfl) (fun s _ e => by rw [e]; exact .inr rfl)
    rw [e] at n ⊢
    exact b.okR hk n
/-- a return hands on no tuple with a list of one's own -/
def retS : S → Fl
  | .ot _ _ _ => .no | s => .rt s
theorem retS_ot {s : S} (h : retS s ≠ .no) : retS s = .rt s ∧ notOt s = true := by
  cases s with
  | ot A xs B => exact (h rfl).elim
  | _ => exact ⟨rfl, rfl⟩
def SS.ret (e : SE Hy) : SS Hy where
  t K W := tRet (e.t K W)
  f δ := Fl.exp (e.f δ) δ retS
  ok K hk W δ := by
    cases h : e.f δ with
    | no => trivial
    | ex c fs => exact sd_retX (e.exS hk h) rfl
    | ok s =>
      by_cases z : retS s = .no
      · show SDF K W _ δ (retS s)
        rw [z]; trivial
      · obtain ⟨z1, z2⟩ := retS_ot z
        show SDF K W _ δ (retS s)
        rw [z1]
        exact sd_ret (e.okS hk h) z2 (.inl rfl)
def SS.drop (e : SE Hy) : SS Hy where
  t K W := tDrop (e.t K W)
  f δ := Fl.exp (e.f δ) δ fun _ => .nx δ
  ok K hk W δ := by
    cases h : e.f δ with
    | no => trivial
    | ex c fs => exact sd_dropX (e.exS hk h) rfl
    | ok s => exact sd_drop (e.okS hk h) rfl
/-- x = e, a list that is made here stays one's own -/
def SS.set (i : Nat) (e : SE Hy) : SS Hy where
  t K W := tAsg (e.t K W) (gName i)
  f δ := Fl.exp (e.f δ) δ fun s => if i < δ.length then .nx (δ.set i s) else .no
  ok K hk W δ := by
    cases h : e.f δ with
    | no => trivial
    | ex c fs => exact sd_asgX (e.exS hk h) rfl
    | ok s =>
      rw [Fl.ok_exp]
      by_cases z : i < δ.length
      · rw [if_pos z]; exact sd_set (e.okS hk h) z rfl
      · rw [if_neg z]; trivial
/-- x = e, told as data -/
def SS.setD (i : Nat) (e : SE Hy) : SS Hy where
  t K W := tAsg (e.t K W) (gName i)
  f δ := Fl.exp (e.fd δ) δ fun x => if i < δ.length then .nx (δ.set i (.d x)) else .no
  ok K hk W δ := by
    cases h : e.fd δ with
    | no => trivial
    | ex c fs => exact sd_asgX (e.exD hk h) rfl
    | ok s =>
      rw [Fl.ok_exp]
      by_cases z : i < δ.length
      · rw [if_pos z]; exact sd_set (e.okD hk h) z rfl
      · rw [if_neg z]; trivial
def SS.asg (e : SE Hy) (g : SG Hy) : SS Hy where
  t K W := tAsg (e.t K W) (g.t K W)
  f δ := Fl.exp (e.fd δ) δ fun x => Fl.exn (.of (g.f δ x)) .nx
  ok K hk W δ := by
    cases h : e.fd δ with
    | no => trivial
    | ex c fs => exact sd_asgX (e.exD hk h) rfl
    | ok x =>
      rw [Fl.ok_exp]
      cases h2 : g.f δ x with
      | none => trivial
      | some δ' => exact sd_asg (e.okD hk h) (g.okG hk h2) rfl
def SS.ite (c : ST Hy) (a b : SS Hy) : SS Hy where
  t K W := tIfS (c.t K W) (a.t K W) (b.t K W)
  f δ := Fl.exn (c.f δ) fun k => if k = true then a.f δ else b.f δ
  ok K hk W δ := by
    cases h : c.f δ with
    | ok k =>
      rw [Fl.ok_exn]
      cases k with
      | true => rw [if_pos rfl]; exact sdf_of fun n => sd_if (c.okB hk h) (fun _ => a.okR hk n) fun z => nomatch z
      | false => rw [if_neg (fun z => nomatch z)]; exact sdf_of fun n => sd_if (c.okB hk h) (fun z => nomatch z) fun _ => b.okR hk n
    | _ => trivial
def SS.raise (C : Addr) : SS Hy := ⟨fun _ W => tRaise C W, fun δ => .ex δ C [], fun _ _ _ _ => sd_raise rfl⟩
def SS.never : SS Hy := ⟨fun _ _ => tNever, fun _ => .no, fun _ _ _ _ => trivial⟩
/-- slot i a list of one's own -/
def ow : List S → Nat → M (List D)
  | .own xs :: _, 0 => .ok xs
  | _ :: l, i + 1 => ow l i
  | _, _ => .no
theorem ow_s {l : List S} {s : S} {i : Nat} : ow (s :: l) (i + 1) = ow l i := by cases s <;> rfl
theorem ow_ok : ∀ {δ : List S} {i : Nat} {xs : List D}, ow δ i = .ok xs → δ[i]? = some (.own xs)
  | [], i, s, h => by cases i <;> cases h
  | a :: l, 0, s, h => by cases a <;> cases h; rfl
  | a :: l, i + 1, s, h => by rw [ow_s] at h; simpa using ow_ok h
/-- xs.append(e) -/
def SS.app (i : Nat) (e : SE Hy) : SS Hy where
  t K W := tDrop (tBM K "list" rAppend (tVar i) (tCons (e.t K W) tNil))
  f δ := Fl.exn (ow δ i) fun xs => Fl.exn (e.fd δ) fun x => if xs.length < sizeLine then .nx (δ.set i (.own (xs ++ [x]))) else .no
  ok K hk W δ := by
    cases h : ow δ i with
    | ok xs =>
      rw [Fl.ok_exn]
      cases h2 : e.fd δ with
      | ok x =>
        rw [Fl.ok_exn]
        by_cases z : xs.length < sizeLine
        · rw [if_pos z]; exact sd_append (ow_ok h) (e.okD hk h2) z rfl
        · rw [if_neg z]; trivial
      | _ => trivial
    | _ => trivial
/-- from here on the list in slot i is data -/
def SS.frz (i : Nat) (a : SS Hy) : SS Hy where
  t K W := a.t K W
  f δ := match ow δ i with | .ok xs => a.f (δ.set i (.d (.lst xs))) | _ => a.f δ
  ok K hk W δ := by
    cases h : ow δ i with
    | ok xs => exact sdf_of fun n => sd_frzAt (ow_ok h) (a.okR hk n)
    | _ => exact a.ok K hk W δ
/-- slots forgotten -/
def wpF : List Nat → List S → List S
  | [], δ => δ
  | i :: r, δ => wpF r (δ.set i .un)
theorem weak_set {i : Nat} : weak δ (δ.set i .un) := fun j s h => by
  by_cases z : i = j
  · subst z
    have hl : i < δ.length := by have := (List.getElem?_eq_some_iff.mp h).1; rwa [List.length_set] at this
    rw [List.getElem?_set_self hl] at h
    exact .inr ⟨(Option.some.inj h).symm, δ[i], List.getElem?_eq_getElem hl⟩
  · rw [List.getElem?_set_ne z] at h; exact .inl h
theorem weak_trans {a b c : List S} (h : weak a b) (k : weak b c) : weak a c := fun i s e => by
  rcases k i s e with q | ⟨rfl, t, q⟩
  · exact h i s q
  · rcases h i t q with r | ⟨_, u, r⟩
    · exact .inr ⟨rfl, t, r⟩
    · exact .inr ⟨rfl, u, r⟩
theorem weak_wpF : ∀ (vs : List Nat) (δ : List S), weak δ (wpF vs δ)
  | [], _ => weak_refl
  | _ :: r, _ => weak_trans weak_set (weak_wpF r _)
def SS.wipe (vs : List Nat) (a : SS Hy) : SS Hy where
  t K W := a.t K W
  f δ := a.f (wpF vs δ)
  ok K hk W δ := sdf_of fun n => sd_weak (weak_wpF vs δ) (a.okR hk n)
def forF (g : List S → D → Option (List S)) (body : List S → Fl) (vs : List Nat) : List D → List S → Fl
  | [], δ => .nx δ
  | y :: ys, δ => match g δ y with
    | none => .no
    | some δ1 => match body δ1 with
      | .nx δ2 => forF g body vs ys (wpF vs δ2)
      | .ct δ2 => forF g body vs ys (wpF vs δ2)
      | .bk δ2 => .nx δ2
      | r => r
/-- the slots ahead of item i -/
def forI (g : List S → D → Option (List S)) (body : List S → Fl) (vs : List Nat) (ys : List D) (δ : List S) : Nat → List S
  | 0 => δ
  | i + 1 => match ys[i]? with
    | none => []
    | some y => match g (forI g body vs ys δ i) y with
      | none => []
      | some δ1 => match body δ1 with | .nx δ2 => wpF vs δ2 | .ct δ2 => wpF vs δ2 | _ => []
def SS.forS (i : SI Hy) (g : SG Hy) (vs : List Nat) (b : SS Hy) : SS Hy where
  t K W := tFor (i.t K W) (g.t K W) (b.t K W)
  f δ := Fl.exn (i.f δ) fun ys => forF g.f b.f vs ys (wpF vs δ)
  ok K hk W δ := by
    cases h : i.f δ with
    | ok ys =>
      rw [Fl.ok_exn]
      refine sdf_of fun n => ?_
      generalize hr : forF g.f b.f vs ys (wpF vs δ) = r at n
      refine sd_forP (ys := ys) (h := id) (P := fun k => forF g.f b.f vs (ys.drop k) (forI g.f b.f vs ys (wpF vs δ) k) = r) hr (ei_is (i.okI hk h) (List.map_id _).symm) (forI g.f b.f vs ys (wpF vs δ)) (weak_wpF vs δ) (fun k y hy hP => ?_) (fun hP => ?_)
      · have hlt := (List.getElem?_eq_some_iff.mp hy).1
        have hd : ys.drop k = y :: ys.drop (k + 1) := by
          rw [List.drop_eq_getElem_cons hlt, (List.getElem?_eq_some_iff.mp hy).2]
        rw [hd] at hP
        unfold forF at hP
        cases h1 : g.f (forI g.f b.f vs ys (wpF vs δ) k) y with
        | none => rw [h1] at hP; exact (n hP.symm).elim
        | some δ1 =>
          rw [h1] at hP
          simp only at hP
          have hn : b.f δ1 ≠ .no := fun z => n (by rw [← hP, z])
          have hI : ∀ δ2, (b.f δ1 = .nx δ2 ∨ b.f δ1 = .ct δ2) → forI g.f b.f vs ys (wpF vs δ) (k + 1) = wpF vs δ2 := fun δ2 e => by
            conv => lhs; unfold forI
            rw [hy]
            show (match g.f (forI g.f b.f vs ys (wpF vs δ) k) y with | none => [] | some δ1 => match b.f δ1 with | .nx δ2 => wpF vs δ2 | .ct δ2 => wpF vs δ2 | _ => []) = _
            rw [h1]
            rcases e with e | e <;> (show (match b.f δ1 with | .nx δ2 => wpF vs δ2 | .ct δ2 => wpF vs δ2 | _ => []) = _; rw [e])
          refine ⟨δ1, g.okG hk h1, sdr_mono (b.okR hk hn) (fun δ2 e => ?_) (fun s _ e => .inl ?_) (fun δ2 e => ?_) (fun δ2 e => ?_) (fun δ2 c fs e => ?_) (fun s _ e => .inr ?_)⟩
          · refine ⟨?_, by rw [hI δ2 (.inl e)]; exact weak_wpF vs δ2⟩
            rw [hI δ2 (.inl e), ← hP]; show _ = (match b.f δ1 with | .nx δ2 => _ | .ct δ2 => _ | .bk δ2 => _ | r => r); rw [e]
          · rw [← hP]; show (match b.f δ1 with | .nx δ2 => _ | .ct δ2 => _ | .bk δ2 => _ | r => r) = _; rw [e]
          · rw [← hP]; show (match b.f δ1 with | .nx δ2 => _ | .ct δ2 => _ | .bk δ2 => _ | r => r) = _; rw [e]
          · refine ⟨?_, by rw [hI δ2 (.inr e)]; exact weak_wpF vs δ2⟩
            rw [hI δ2 (.inr e), ← hP]; show _ = (match b.f δ1 with | .nx δ2 => _ | .ct δ2 => _ | .bk δ2 => _ | r => r); rw [e]
          · rw [← hP]; show (match b.f δ1 with | .nx δ2 => _ | .ct δ2 => _ | .bk δ2 => _ | r => r) = _; rw [e]
          · rw [← hP]; show (match b.f δ1 with | .nx δ2 => _ | .ct δ2 => _ | .bk δ2 => _ | r => r) = _; rw [e]
      · rw [List.drop_length] at hP; exact hP.symm
    | _ => trivial
def whN (c : List S → M Bool) (body : List S → Fl) (vs : List Nat) : Nat → List S → Option Fl
  | 0, _ => none
  | n + 1, δ => match c δ with
    | .ok true => (match body δ with
      | .nx δ2 => whN c body vs n (wpF vs δ2)
      | .ct δ2 => whN c body vs n (wpF vs δ2)
      | .bk δ2 => some (.nx δ2)
      | r => some r)
    | .ok false => some (.nx δ)
    | _ => some .no
open Classical in
noncomputable def whF (c : List S → M Bool) (body : List S → Fl) (vs : List Nat) (δ : List S) : Fl := if h : ∃ n r, whN c body vs n δ = some r then (whN c body vs h.choose δ).getD .no else .no
theorem whN_mono {c : List S → M Bool} {body : List S → Fl} {vs : List Nat} : ∀ {n m : Nat} {δ : List S} {r : Fl}, whN c body vs n δ = some r → n ≤ m → whN c body vs m δ = some r
  | 0, _, _, _, h, _ => nomatch h
  | n + 1, 0, _, _, _, l => by omega
  | n + 1, m + 1, δ, r, h, l => by
    unfold whN at h ⊢
    cases hc : c δ with
    | ok b =>
      rw [hc] at h
      cases b with
      | false => exact h
      | true =>
        cases hb : body δ with
        | nx δ2 => simp only [hb] at h ⊢; exact whN_mono h (by omega)
        | ct δ2 => simp only [hb] at h ⊢; exact whN_mono h (by omega)
        | _ => simp only [hb] at h ⊢; exact h
    | _ => rw [hc] at h; exact h
theorem whF_of {c : List S → M Bool} {body : List S → Fl} {vs : List Nat} {n : Nat} {r : Fl} (h : whN c body vs n δ = some r) : whF c body vs δ = r := by
  unfold whF
  have e : ∃ n r, whN c body vs n δ = some r := ⟨n, r, h⟩
  rw [dif_pos e]
  obtain ⟨r', h'⟩ := e.choose_spec
  rw [h']
  have h1 := whN_mono h (Nat.le_max_left n e.choose)
  have h2 := whN_mono h' (Nat.le_max_right n e.choose)
  rw [h1] at h2
  exact (Option.some.inj h2).symm
theorem whF_to {c : List S → M Bool} {body : List S → Fl} {vs : List Nat} {r : Fl} (h : whF c body vs δ = r) (n : r ≠ .no) : ∃ n, whN c body vs n δ = some r := by
  unfold whF at h
  split at h
  · rename_i e
    obtain ⟨r', h'⟩ := e.choose_spec
    rw [h'] at h
    exact ⟨_, by rw [h']; exact congrArg some h⟩
  · exact (n h.symm).elim
noncomputable def SS.whileS (c : ST Hy) (vs : List Nat) (b : SS Hy) : SS Hy where
  t K W := tWhile (c.t K W) (b.t K W)
  f δ := whF c.f b.f vs (wpF vs δ)
  ok K hk W δ := by
    refine sdf_of fun n => ?_
    generalize hr : whF c.f b.f vs (wpF vs δ) = r at n
    obtain ⟨m0, h0⟩ := whF_to hr n
    refine sd_while (α := Nat × List S) (fun a => a.2) (fun a => whN c.f b.f vs a.1 a.2 = some r) (fun a => a.1) (m0, wpF vs δ) h0 (weak_wpF vs δ) (fun a ha => ?_)
    obtain ⟨m, δ1⟩ := a
    cases m with
    | zero => cases ha
    | succ m =>
      have ha' : whN c.f b.f vs (m + 1) δ1 = some r := ha
      unfold whN at ha'
      cases hc : c.f δ1 with
      | ok k =>
        refine ⟨k, c.okB hk hc, fun ek => ?_, fun ek => ?_⟩
        · subst ek
          rw [hc] at ha'
          have hn : b.f δ1 ≠ .no := fun z => by simp only [z] at ha'; exact n (Option.some.inj ha').symm
          refine sdr_mono (b.okR hk hn) (fun δ2 e => ?_) (fun s _ e => .inl ?_) (fun δ2 e => ?_) (fun δ2 e => ?_) (fun δ2 c fs e => ?_) (fun s _ e => .inr ?_)
          · simp only [e] at ha'; exact ⟨(m, wpF vs δ2), ha', Nat.lt_succ_self m, weak_wpF vs δ2⟩
          · simp only [e] at ha'; exact (Option.some.inj ha').symm
          · simp only [e] at ha'; exact (Option.some.inj ha').symm
          · simp only [e] at ha'; exact ⟨(m, wpF vs δ2), ha', Nat.lt_succ_self m, weak_wpF vs δ2⟩
          · simp only [e] at ha'; exact (Option.some.inj ha').symm
          · simp only [e] at ha'; exact (Option.some.inj ha').symm
        · subst ek
          rw [hc] at ha'
          exact (Option.some.inj ha').symm
      | no => rw [hc] at ha'; exact (n (Option.some.inj ha').symm).elim
      | ex e fs => rw [hc] at ha'; exact (n (Option.some.inj ha').symm).elim
structure OA where
  r : TIp
  f : D → D → Option D
  ok : ∀ K x y z, f x y = some z → RP2 K (fun v u H Q => r v u H Q) x y z
theorem sd_aug {ti : TIp} {N B Ct : List S → Prop} {Rt : S → List S → Prop} {Xc : List S → Addr → List (Str × D) → Prop} {i : Nat} (hi : δ[i]? = some (.d x)) (h : EV K te δ (.d y)) (hr : RP2 K (fun v u H Q => ti v u H Q) x y z) (n : N (δ.set i (.d z))) : SD K W (tAug i te ti) δ N Rt B Ct Xc := by
  intro He Ge H σ Dn ok nx rt bk ct xx
  obtain ⟨G, ok0⟩ := id ok
  obtain ⟨o, eo, v, rfl, rv⟩ := ok0.sl i _ hi
  refine ⟨v, eo, ?_⟩
  have hl : i < δ.length := (List.getElem?_eq_some_iff.mp hi).1
  refine ev0 h ok fun w H' ⟨G', ok'⟩ => ?_
  obtain ⟨_, e4, rw_⟩ := ok'.top
  cases e4
  obtain ⟨o2, eo2, v2, e5, rv2⟩ := ok'.pop.sl i _ hi
  rw [eo] at eo2
  cases eo2; cases e5
  exact hr H' G' v w rv2 rw_ _ fun u ru => nx _ _ _ ⟨G', OKG.store (ok'.pop.pushD ru) hl⟩ n
def SS.aug (i : Nat) (o : OA) (e : SE Hy) : SS Hy where
  t K W := tAug i (e.t K W) o.r
  f δ := Fl.exn (gt δ i) fun s => Fl.exn (toD s) fun x => Fl.exn (e.fd δ) fun y => Fl.exn (.of (o.f x y)) fun z => .nx (δ.set i (.d z))
  ok K hk W δ := by
    cases h : gt δ i with
    | ok s =>
      rw [Fl.ok_exn]
      obtain ⟨x, rfl, hx⟩ := gt_ok h
      cases h2 : e.fd δ with
      | ok y =>
        rw [toD_d, Fl.ok_exn, Fl.ok_exn]
        cases h3 : o.f x y with
        | none => trivial
        | some z => exact sd_aug hx (e.okD hk h2) (o.ok K x y z h3) rfl
      | _ => rw [toD_d, Fl.ok_exn]; trivial
    | _ => trivial
/-- slot i the new object -/
def obj : List S → Nat → M (Option Addr × Addr × List (Str × D))
  | .ob a C fs :: _, 0 => .ok (a, C, fs)
  | _ :: l, i + 1 => obj l i
  | _, _ => .no
theorem obj_s {l : List S} {s : S} {i : Nat} : obj (s :: l) (i + 1) = obj l i := by cases s <;> rfl
theorem obj_ok : ∀ {δ : List S} {i : Nat} {p : Option Addr × Addr × List (Str × D)}, obj δ i = .ok p → δ[i]? = some (.ob p.1 p.2.1 p.2.2)
  | [], i, s, h => by cases i <;> cases h
  | a :: l, 0, s, h => by cases a <;> cases h; rfl
  | a :: l, i + 1, s, h => by rw [obj_s] at h; simpa using obj_ok h
def SS.setF (i : Nat) (f : Str) (Cs : List Addr) (hf : FldOk Hy f Cs) (e : SE Hy) : SS Hy where
  t K W := sFld K (tVar i) (e.t K W) f
  f δ := Fl.exn (obj δ i) fun p => Fl.exn (e.fd δ) fun x => if p.2.1 ∈ Cs ∧ p.2.2.length < 1000 then .nx (δ.set i (.ob p.1 p.2.1 (putD f x p.2.2))) else .no
  ok K hk W δ := by
    cases h : obj δ i with
    | ok p =>
      rw [Fl.ok_exn]
      cases h2 : e.fd δ with
      | ok x =>
        rw [Fl.ok_exn]
        by_cases z : p.2.1 ∈ Cs ∧ p.2.2.length < 1000
        · rw [if_pos z]; obtain ⟨c, n⟩ := hf K hk _ z.1; exact sd_fld (obj_ok h) (e.okD hk h2) c n z.2 rfl
        · rw [if_neg z]; trivial
      | _ => trivial
    | _ => trivial
def runF (b : SS Hy) (n np : Nat) (xs : List D) : M S := if xs.length = np then (match b.f (slots n xs) with | .nx _ => .ok (.d .non) | .rt s => .ok s | .ex _ c fs => .ex c fs | _ => .no) else .no
def runI (b : SS Hy) (n np : Nat) (C x : Addr) (xs : List D) : M (List (Str × D)) := if xs.length + 1 = np then (match b.f (slotsI n x C xs) with
    | .nx (.ob (some x') C' fs :: _) => if x' = x ∧ C' = C then .ok fs else .no
    | .ex _ c fs => .ex c fs | _ => .no) else .no
theorem hl_run {b : SS Hy} {n np : Nat} : ∀ xs out, RF (runF b n np) xs out → xs.length = np := fun xs out h => by
  by_cases e : xs.length = np
  · exact e
  · rcases h with ⟨s, h, _⟩ | ⟨c, cf, h, _⟩ <;> (unfold runF at h; rw [if_neg e] at h; cases h)
theorem hl_runI {b : SS Hy} {n np : Nat} {C : Addr} : ∀ xs out, RI C (runI b n np C) xs out → xs.length + 1 = np := fun xs out h => by
  by_cases e : xs.length + 1 = np
  · exact e
  · rcases h with ⟨s, h, _⟩ | ⟨c, cf, h, _⟩ <;> (have h := h 0; unfold runI at h; rw [if_neg e] at h; cases h)
theorem sd_run {b : SS Hy} {n np : Nat} {E : WX} {out : Out} (hk : Hy K) (h : RF (runF b n np) xs out) : SDef K E (b.t K E) (slots n xs) out := by
  have key : ∀ m : M S, runF b n np xs = m → m ≠ .no → ∃ r, b.f (slots n xs) = r ∧ r ≠ .no ∧ (match r with | .nx _ => M.ok (.d .non) | .rt s => .ok s | .ex _ c fs => .ex c fs | _ => .no) = m := fun m e ne => by
    unfold runF at e
    split at e
    · refine ⟨_, rfl, fun z => ?_, e⟩
      rw [z] at e; exact ne e.symm
    · exact (ne e.symm).elim
  unfold SDef
  rcases h with ⟨s, h, rfl⟩ | ⟨c, cf, h, rfl⟩
  · obtain ⟨r, h1, h2, h3⟩ := key _ h (fun z => nomatch z)
    refine sdr_mono (b.okR hk (by rw [h1]; exact h2)) (fun δ' e => ?_) (fun s _ e => ?_) (fun δ' e => ?_) (fun δ' e => ?_) (fun δ' c fs e => ?_) (fun s _ e => ?_) <;> (rw [h1] at e; subst e)
    · cases h3; rfl
    · cases h3; exact .inl rfl
    · cases h3
    · cases h3
    · cases h3
    · cases h3
  · obtain ⟨r, h1, h2, h3⟩ := key _ h (fun z => nomatch z)
    refine sdr_mono (b.okR hk (by rw [h1]; exact h2)) (fun δ' e => ?_) (fun s _ e => ?_) (fun δ' e => ?_) (fun δ' e => ?_) (fun δ' c fs e => ?_) (fun s _ e => ?_) <;> (rw [h1] at e; subst e)
    · cases h3
    · cases h3
    · cases h3
    · cases h3
    · cases h3; rfl
    · cases h3
theorem sd_runI {b : SS Hy} {n np : Nat} {E : WX} {out : Out} {x : Addr} (hk : Hy K) (h : RI C (runI b n np C) xs out) : SDefI K E x C (b.t K E) (slotsI n x C xs) out := by
  unfold SDefI
  rcases h with ⟨fs, h, rfl⟩ | ⟨c, cf, h, rfl⟩
  · replace h := h x
    unfold runI at h
    split at h
    · have hn : b.f (slotsI n x C xs) ≠ .no := fun z => by rw [z] at h; cases h
      refine sdr_mono (b.okR hk hn) (fun δ' e => ?_) (fun s _ e => ?_) (fun δ' e => ?_) (fun δ' e => ?_) (fun δ' c fs e => ?_) (fun s _ e => ?_) <;> rw [e] at h
      · cases δ' with
        | nil => cases h
        | cons s δ' =>
          cases s with
          | ob x' C' fs' =>
            cases x' with
            | none => cases h
            | some x' =>
              simp only at h
              split at h
              · rename_i q; obtain ⟨rfl, rfl⟩ := q; cases h; exact ⟨_, rfl, rfl⟩
              · cases h
          | _ => cases h
      · cases h
      · cases h
      · cases h
      · cases h
      · cases h
    · cases h
  · replace h := h x
    unfold runI at h
    split at h
    · have hn : b.f (slotsI n x C xs) ≠ .no := fun z => by rw [z] at h; cases h
      refine sdr_mono (b.okR hk hn) (fun δ' e => ?_) (fun s _ e => ?_) (fun δ' e => ?_) (fun δ' e => ?_) (fun δ' c fs e => ?_) (fun s _ e => ?_) <;> rw [e] at h
      · cases δ' with
        | nil => cases h
        | cons s δ' =>
          cases s with
          | ob x' C' fs' =>
            cases x' with
            | none => cases h
            | some x' =>
              simp only at h
              split at h <;> cases h
          | _ => cases h
      · cases h
      · cases h
      · cases h
      · cases h; rfl
      · cases h
    · cases h
end
end Far
namespace Far
open PySem L2
variable {Hy : PySem.W.Frag → Prop}
section
open Classical
noncomputable def addF : D → D → Option S
  | .int i, .int j => some (.d (.int (i + j)))
  | .str a, .str b => if a.length + b.length ≤ sizeLine then some (.d (.str (a ++ b))) else none
  | .lst xs, .lst ys => if xs.length + ys.length ≤ sizeLine then some (.own (xs ++ ys)) else none
  | .tup xs, .tup ys => if xs.length + ys.length ≤ sizeLine then some (.d (.tup (xs ++ ys))) else none
  | _, _ => none
noncomputable def oAdd : O2 where
  r K := rAddU K
  f := addF
  ok K x y s h := by
    unfold addF at h
    split at h
    · cases h; exact add_int
    · split at h
      · cases h; exact add_str (by assumption)
      · cases h
    · split at h
      · cases h; exact add_lst (by assumption)
      · cases h
    · split at h
      · cases h; exact add_tup (by assumption)
      · cases h
    · cases h
def subF : D → D → Option S
  | .int i, .int j => some (.d (.int (i - j)))
  | _, _ => none
def oSub : O2 where
  r K := rI0 fun i j => .int (i - j)
  f := subF
  ok K x y s h := by
    unfold subF at h
    split at h
    · cases h; exact sub_int
    · cases h
noncomputable def mulF : D → D → Option S
  | .int i, .int j => if CMul i j ∨ CMulW i j then some (.d (.int (i * j))) else none
  | .lst xs, .int k => if -(2 ^ 63) ≤ k ∧ k < 2 ^ 63 ∧ xs.length * k.toNat ≤ sizeLine then some (.own (List.replicate k.toNat xs).flatten) else none
  | .tup xs, .int k => if xs ≠ [] ∧ 1 ≤ k ∧ xs.length * k.toNat ≤ 1000000 ∧ k ≤ 1000000 then some (.d (.tup (List.replicate k.toNat xs).flatten)) else none
  | _, _ => none
noncomputable def oMul : O2 where
  r K := rMulU K
  f := mulF
  ok K x y s h := by
    unfold mulF at h
    split at h
    · split at h
      · rename_i q
        cases h
        rcases q with q | q
        · exact mul_int q
        · exact mul_wide q
      · cases h
    · split at h
      · rename_i q; cases h; exact mul_lst q.1 q.2.1 q.2.2
      · cases h
    · split at h
      · rename_i k q
        cases h
        by_cases e : k = 1
        · subst e
          have z : ∀ xs : List D, (List.replicate (1 : Int).toNat xs).flatten = xs := fun xs => by show (List.replicate 1 xs).flatten = _; simp
          rw [z]; exact mul_tup1
        · exact mul_tup q.1 (by omega) q.2.2.1 q.2.2.2
      · cases h
    · cases h
noncomputable def divF : D → D → Option S
  | .int i, .int j => if CDivW i j then some (.d (.int (i / j))) else none
  | _, _ => none
noncomputable def oDiv : O2 where
  r K := rI CDivW fun i j => .int (i / j)
  f := divF
  ok K x y s h := by
    unfold divF at h
    split at h
    · split at h
      · cases h; exact fdiv_int (by assumption)
      · cases h
    · cases h
def modF : D → D → Option S
  | .int i, .int j => if 0 < j then some (.d (.int (i % j))) else none
  | _, _ => none
def oMod : O2 where
  r K := rI (fun _ j => 0 < j) fun i j => .int (i % j)
  f := modF
  ok K x y s h := by
    unfold modF at h
    split at h
    · split at h
      · cases h; exact mod_int (by assumption)
      · cases h
    · cases h
noncomputable def powF : D → D → Option S
  | .int i, .int j => if CPow i j then some (.d (.int (i ^ j.toNat))) else none
  | _, _ => none
noncomputable def oPow : O2 where
  r K := rI CPow fun i j => .int (i ^ j.toNat)
  f := powF
  ok K x y s h := by
    unfold powF at h
    split at h
    · split at h
      · cases h; exact pow_int (by assumption)
      · cases h
    · cases h
def ltF : D → D → Option S
  | .int i, .int j => some (.d (.bl (decide (i < j)))) | _, _ => none
def leF : D → D → Option S
  | .int i, .int j => some (.d (.bl (decide (i ≤ j)))) | _, _ => none
def gtF : D → D → Option S
  | .int i, .int j => some (.d (.bl (decide (j < i)))) | _, _ => none
def oLt : O2 := ⟨fun K => rI0 fun i j => .bl (decide (i < j)), ltF, fun K x y s h => by
  unfold ltF at h; split at h
  · cases h; exact lt_int
  · cases h⟩
def oLe : O2 := ⟨fun K => rI0 fun i j => .bl (decide (i ≤ j)), leF, fun K x y s h => by
  unfold leF at h; split at h
  · cases h; exact le_int
  · cases h⟩
def oGt : O2 := ⟨fun K => rI0 fun i j => .bl (decide (j < i)), gtF, fun K x y s h => by
  unfold gtF at h; split at h
  · cases h; exact gt_int
  · cases h⟩
/-- two that can be compared -/
def cmpD (x y : D) : Bool := pur x && pur y && decide ((pd x).depth ≤ 64) && decide ((pd y).depth ≤ 64)
def eqB : D → D → Option Bool
  | .int i, .int j => some (decide (i = j))
  | .str i, .str j => some (decide (i = j))
  | .bl i, .bl j => some (decide (i = j))
  | .int _, .non => some false
  | .non, .int _ => some false
  | .non, .non => some true
  | .scr xs, .lst [] => if xs.all (fun x => match x with | .int _ => true | _ => false) = true then some xs.isEmpty else none
  | x, y => if cmpD x y = true then some (eqD x y) else none
theorem all_ints : ∀ {xs : List D}, xs.all (fun x => match x with | .int _ => true | _ => false) = true → ∃ ns : List Int, xs = ns.map .int
  | [], _ => ⟨[], rfl⟩
  | x :: xs, h => by
    rw [List.all_cons, Bool.and_eq_true] at h
    obtain ⟨ns, rfl⟩ := all_ints h.2
    cases x with
    | int i => exact ⟨i :: ns, rfl⟩
    | _ => exact (nomatch h.1)
def eqF2 (x y : D) : Option S := match x, y with
  | .scr _, .lst [] => none
  | x, y => (eqB x y).map fun b => .d (.bl b)
def neF2 (x y : D) : Option S := (eqB x y).map fun b => .d (.bl !b)
theorem cmpD_to {x y : D} (h : cmpD x y = true) : pur x = true ∧ pur y = true ∧ (pd x).depth ≤ 64 ∧ (pd y).depth ≤ 64 := by
  unfold cmpD at h
  simp only [Bool.and_eq_true, decide_eq_true_eq] at h
  exact ⟨h.1.1.1, h.1.1.2, h.1.2, h.2⟩
def oEq : O2 where
  r K := rEqU K
  f := eqF2
  ok K x y s h := by
    unfold eqF2 at h
    split at h
    · cases h
    · unfold eqB at h
      split at h
      · cases h; exact eq_int
      · cases h; exact eq_str
      · cases h; exact eq_bl
      · cases h; exact eq_int_non
      · cases h; exact eq_non_int
      · cases h; exact eq_non
      · rename_i q; exact (q _ rfl rfl).elim
      · split at h
        · rename_i q
          obtain ⟨q1, q2, q3, q4⟩ := cmpD_to q
          cases h; exact eq_D q1 q2 q3 q4
        · cases h
def oNe : O2 where
  r K := rNeU K
  f := neF2
  ok K x y s h := by
    unfold neF2 eqB at h
    split at h
    · cases h; exact ne_int
    · cases h; exact ne_str
    · cases h; exact ne_bl
    · cases h; exact ne_int_non
    · cases h; exact ne_non_int
    · cases h; exact ne_non
    · split at h
      · rename_i q
        obtain ⟨ns, rfl⟩ := all_ints q
        cases h
        have e : (ns.map D.int).isEmpty = ns.isEmpty := by cases ns <;> rfl
        rw [e]; exact ne_scr_nil
      · cases h
    · split at h
      · rename_i q
        obtain ⟨q1, q2, q3, q4⟩ := cmpD_to q
        cases h; exact ne_D q1 q2 q3 q4
      · cases h
def isNF (x y : D) : Option S := match y with | .non => some (.d (.bl (isNon x))) | _ => none
def notNF (x y : D) : Option S := match y with | .non => some (.d (.bl (!isNon x))) | _ => none
def oIsN : O2 := ⟨fun K => rIsN, isNF, fun K x y s h => by
  unfold isNF at h; split at h
  · cases h; exact is_non
  · cases h⟩
def oNotN : O2 := ⟨fun K => rNotN, notNF, fun K x y s h => by
  unfold notNF at h; split at h
  · cases h; exact not_non
  · cases h⟩
/-- xs[i] -/
def ixF : D → D → Option S
  | .lst xs, .int i => (L2.atI xs i).map .d
  | .tup xs, .int i => (L2.atI xs i).map .d
  | .scr xs, .int i => (L2.atI xs i).map .d
  | .str z, .int i => if z.length ≤ sizeLine then (L2.atI z.cps.toList i).map fun c => .d (.str ⟨#[c]⟩) else none
  | _, _ => none
def oIx : O2 where
  r K := rIx K
  f := ixF
  ok K x y s h := by
    unfold ixF at h
    split at h
    · obtain ⟨w, e, rfl⟩ := Option.map_eq_some_iff.mp h; exact ix_lst e
    · obtain ⟨w, e, rfl⟩ := Option.map_eq_some_iff.mp h; exact ix_tup e
    · obtain ⟨w, e, rfl⟩ := Option.map_eq_some_iff.mp h; exact ix_scr e
    · split at h
      · obtain ⟨w, e, rfl⟩ := Option.map_eq_some_iff.mp h; exact ix_str (by assumption) e
      · cases h
    · cases h
def negF : D → Option S
  | .int i => some (.d (.int (-i))) | _ => none
def oNeg : O1 := ⟨fun K => rU fun i => .int (-i), negF, fun K x s h => by
  unfold negF at h; split at h
  · cases h; exact neg_int
  · cases h⟩
def lenF : List D → Option S
  | [.lst xs] => some (.d (.int xs.length)) | [.tup xs] => some (.d (.int xs.length)) | [.scr xs] => some (.d (.int xs.length))
  | [.str z] => if z.length ≤ sizeLine then some (.d (.int z.length)) else none
  | _ => none
def bLen : OB Hy where
  r K := rLenU K
  f := lenF
  ok K hk xs s h := by
    unfold lenF at h
    split at h
    · cases h; exact len_lst
    · cases h; exact len_tup
    · cases h; exact len_scr
    · split at h
      · cases h; exact len_str (by assumption)
      · cases h
    · cases h
def max2F : List D → Option S
  | [.int i, .int j] => some (.d (.int (max i j))) | _ => none
def min2F : List D → Option S
  | [.int i, .int j] => some (.d (.int (min i j))) | _ => none
def bMax2 : OB Hy := ⟨fun _ => rMx2, max2F, fun K hk xs s h => by
  unfold max2F at h; split at h
  · cases h; exact max2
  · cases h⟩
def bMin2 : OB Hy := ⟨fun _ => rMn2, min2F, fun K hk xs s h => by
  unfold min2F at h; split at h
  · cases h; exact min2
  · cases h⟩
def bools : List D → Option (List Bool)
  | [] => some [] | .bl b :: r => (bools r).map (b :: ·) | _ => none
theorem bools_to : ∀ {xs : List D} {bs : List Bool}, bools xs = some bs → xs = bs.map .bl
  | [], bs, h => by cases h; rfl
  | x :: r, bs, h => by
    cases x with
    | bl b =>
      unfold bools at h
      obtain ⟨cs, e, rfl⟩ := Option.map_eq_some_iff.mp h
      rw [bools_to e]; rfl
    | _ => cases h
theorem bools_map {α : Type} (f : α → Bool) : ∀ l : List α, bools (l.map fun x => D.bl (f x)) = some (l.map f)
  | [] => rfl
  | x :: r => by
    show (bools (r.map fun x => D.bl (f x))).map (f x :: ·) = _
    rw [bools_map f r]; rfl
def allF : List D → Option S
  | [.lst xs] => (bools xs).map fun bs => .d (.bl (bs.all id)) | _ => none
def bAll : OB Hy := ⟨fun K => rAll K, allF, fun K hk xs s h => by
  unfold allF at h; split at h
  · obtain ⟨bs, e, rfl⟩ := Option.map_eq_some_iff.mp h
    rw [bools_to e]; exact all_bls
  · cases h⟩
def tupleF : List D → Option S
  | [.lst xs] => some (.d (.tup xs)) | [.tup xs] => some (.d (.tup xs)) | _ => none
def bTuple : OB Hy := ⟨fun K => rTupU K, tupleF, fun K hk xs s h => by
  unfold tupleF at h; split at h
  · cases h; exact tuple_lst
  · cases h; exact tuple_tup
  · cases h⟩
/-- what is known of the classes: own classes told as instances, as exceptions; class in class; class in a type; type in a class -/
structure Tab where
  ins : List Addr
  exc : List Addr
  cc : List (Addr × Addr × Bool)
  ct : List (Addr × String × Bool)
  tc : List (String × Addr × Bool)
def Tab.Ok (Hy : PySem.W.Frag → Prop) (T : Tab) : Prop := ∀ K, Hy K → (∀ C ∈ T.ins, InsC K C) ∧ (∀ C ∈ T.exc, ExcC K C) ∧ (∀ p ∈ T.cc, PySem.W.kitOne K (.ref p.1) (.ref p.2.1) = some p.2.2) ∧
  (∀ p ∈ T.ct, PySem.W.kitOne K (.ref p.1) (.type p.2.1) = some p.2.2) ∧ ∀ p ∈ T.tc, PySem.W.kitOne K (.type p.1) (.ref p.2.1) = some p.2.2
def find2 {α β : Type} [DecidableEq α] [DecidableEq β] : List (α × β × Bool) → α → β → Option Bool
  | [], _, _ => none
  | p :: r, a, b => if p.1 = a ∧ p.2.1 = b then some p.2.2 else find2 r a b
theorem find2_mem {α β : Type} [DecidableEq α] [DecidableEq β] : ∀ {l : List (α × β × Bool)} {a : α} {b : β} {k : Bool}, find2 l a b = some k → (a, b, k) ∈ l
  | [], _, _, _, h => nomatch h
  | p :: r, a, b, k, h => by
    unfold find2 at h
    split at h
    · rename_i q
      obtain ⟨p1, p2, p3⟩ := p
      obtain ⟨q1, q2⟩ := q
      cases h
      dsimp only at q1 q2
      subst q1 q2
      exact List.mem_cons_self ..
    · exact List.mem_cons_of_mem _ (find2_mem h)
def tyOf (T : Tab) : D → Option (Addr ⊕ String)
  | .ins C _ => if C ∈ T.ins then some (.inl C) else none
  | .exc C [] => if C ∈ T.exc then some (.inl C) else none
  | x => if known x = true then some (.inr (tyN x)) else none
def oneI (T : Tab) (t : Addr ⊕ String) : D → Option Bool
  | .cls A => match t with | .inl C => find2 T.cc C A | .inr n => find2 T.tc n A
  | .ty m => match t with | .inl C => find2 T.ct C m | .inr n => kitB n m
  | _ => none
def isCls : D → Bool | .ty _ => true | .cls _ => true | _ => false
theorem cls_all : ∀ {cs : List D}, cs.all isCls = true → ∃ us, cs.mapM clsD = some us
  | [], _ => ⟨[], rfl⟩
  | c :: r, h => by
    rw [List.all_cons, Bool.and_eq_true] at h
    obtain ⟨us, e⟩ := cls_all h.2
    cases c with
    | ty n => exact ⟨.type n :: us, by rw [List.mapM_cons, e]; rfl⟩
    | cls n => exact ⟨.ref n :: us, by rw [List.mapM_cons, e]; rfl⟩
    | _ => exact (nomatch h.1)
def anyI (T : Tab) (t : Addr ⊕ String) : List D → Option Bool
  | [] => some false
  | c :: r => match oneI T t c with | some true => if r.all isCls = true then some true else none | some false => anyI T t r | none => none
def isiF (T : Tab) : List D → Option S
  | [x, .tup cs] => (tyOf T x).bind fun t => (anyI T t cs).map fun b => .d (.bl b)
  | [x, c] => (tyOf T x).bind fun t => (oneI T t c).map fun b => .d (.bl b)
  | _ => none
def valOf : Addr ⊕ String → Value | .inl C => .ref C | .inr n => .type n
theorem tyOf_kin {K : PySem.W.Frag} {T : Tab} (hT : T.Ok Hy) (hk : Hy K) {x : D} {t : Addr ⊕ String} (h : tyOf T x = some t) : Kin K x (valOf t) := by
  obtain ⟨h1, h2, _⟩ := hT K hk
  unfold tyOf at h
  split at h
  · split at h
    · cases h; exact .ins (h1 _ (by assumption))
    · cases h
  · split at h
    · cases h; exact .exc (h2 _ (by assumption))
    · cases h
  · split at h
    · cases h; exact .ty (by assumption)
    · cases h
theorem oneI_kit {K : PySem.W.Frag} {T : Tab} (hT : T.Ok Hy) (hk : Hy K) {t : Addr ⊕ String} {c : D} {b : Bool} (h : oneI T t c = some b) : ∃ cv, clsD c = some cv ∧ PySem.W.kitOne K (valOf t) cv = some b := by
  obtain ⟨_, _, h3, h4, h5⟩ := hT K hk
  unfold oneI at h
  split at h
  · refine ⟨_, rfl, ?_⟩
    split at h
    · exact h3 _ (find2_mem h)
    · exact h5 _ (find2_mem h)
  · refine ⟨_, rfl, ?_⟩
    split at h
    · exact h4 _ (find2_mem h)
    · exact kit_ty h
  · cases h
theorem anyI_kit {K : PySem.W.Frag} {T : Tab} (hT : T.Ok Hy) (hk : Hy K) {t : Addr ⊕ String} : ∀ {cs : List D} {b : Bool}, anyI T t cs = some b → ∃ us, cs.mapM clsD = some us ∧ PySem.W.kitAny K (valOf t) us = some b
  | [], b, h => by cases h; exact ⟨[], rfl, kitAny_nil⟩
  | c :: r, b, h => by
    unfold anyI at h
    cases e : oneI T t c with
    | none => rw [e] at h; cases h
    | some k =>
      obtain ⟨cv, e1, e2⟩ := oneI_kit hT hk e
      rw [e] at h
      cases k with
      | true =>
        simp only at h
        split at h
        · cases h
          obtain ⟨us, e3⟩ := cls_all (by assumption)
          exact ⟨cv :: us, by rw [List.mapM_cons, e1, e3]; rfl, kitAny_t e2⟩
        · cases h
      | false =>
        obtain ⟨us, e3, e4⟩ := anyI_kit hT hk h
        exact ⟨cv :: us, by rw [List.mapM_cons, e1, e3]; rfl, kitAny_f e2 e4⟩
end
end Far
namespace Far
open PySem L2
variable {Hy : PySem.W.Frag → Prop}
section
theorem isiF_ok {K : PySem.W.Frag} {T : Tab} (hT : T.Ok Hy) (hk : Hy K) {xs : List D} {s : S} (h : isiF T xs = some s) : RVN K (rIsU K) xs s := by
  unfold isiF at h
  split at h
  · rename_i x cs
    obtain ⟨t, e, h⟩ := Option.bind_eq_some_iff.mp h
    obtain ⟨b, e2, rfl⟩ := Option.map_eq_some_iff.mp h
    obtain ⟨us, e3, e4⟩ := anyI_kit hT hk e2
    exact is_anyT (tyOf_kin hT hk e) e3 e4
  · rename_i x c _
    obtain ⟨t, e, h⟩ := Option.bind_eq_some_iff.mp h
    obtain ⟨b, e2, rfl⟩ := Option.map_eq_some_iff.mp h
    obtain ⟨cv, e3, e4⟩ := oneI_kit hT hk e2
    exact is_any (tyOf_kin hT hk e) e3 e4
  · cases h
def bIsi (T : Tab) (hT : T.Ok Hy) : OB Hy := ⟨fun K => rIsU K, isiF T, fun _ hk _ _ h => isiF_ok hT hk h⟩
def one : List D → Option D | [y] => some y | _ => none
end
end Far
namespace Far
open PySem L2 PySem.Spec PyProof.Rows
/-- the classes' places, one for each -/
structure Zs where
  f : Nat → Addr
  inj : ∀ i j, f i = f j ↔ i = j
@[simp] theorem Zs.eq_iff (Z : Zs) (i j : Nat) : (Z.f i = Z.f j) = (i = j) := propext (Z.inj i j)
theorem le_sum : ∀ {l : List Nat} {a : Nat}, a ∈ l → a ≤ l.sum
  | x :: r, a, h => by
    rw [List.sum_cons]
    rcases List.mem_cons.mp h with rfl | h
    · omega
    · have := le_sum h; omega
/-- .. those of l first -/
def Zs.of (l : List Addr) (h : l.Nodup) : Zs where
  f i := l.getD i (l.sum + 1 + i)
  inj i j := by
    have mem : ∀ i, i < l.length → l.getD i (l.sum + 1 + i) = l[i]! ∧ l.getD i (l.sum + 1 + i) ∈ l := fun i hi => by
      rw [List.getD_eq_getElem?_getD, List.getElem?_eq_getElem hi]
      exact ⟨by simp [hi], List.getElem_mem hi⟩
    have out : ∀ i, l.length ≤ i → l.getD i (l.sum + 1 + i) = l.sum + 1 + i := fun i hi => by
      rw [List.getD_eq_getElem?_getD, List.getElem?_eq_none hi]; rfl
    constructor
    · intro e
      rcases Nat.lt_or_ge i l.length with hi | hi
      · rcases Nat.lt_or_ge j l.length with hj | hj
        · rw [List.getD_eq_getElem?_getD, List.getD_eq_getElem?_getD, List.getElem?_eq_getElem hi, List.getElem?_eq_getElem hj] at e
          exact (List.getElem_inj h).mp e
        · have h1 := le_sum (mem i hi).2
          rw [e, out j hj] at h1; omega
      · rcases Nat.lt_or_ge j l.length with hj | hj
        · have h1 := le_sum (mem j hj).2
          rw [← e, out i hi] at h1; omega
        · rw [out i hi, out j hj] at e
          exact Nat.add_left_cancel e
    · rintro rfl; rfl
theorem fm_nil {α : Type} {P : α → Prop} : ∀ x ∈ ([] : List α), P x := fun _ h => nomatch h
theorem fm_cons {α : Type} {P : α → Prop} {a : α} {l : List α} (h : P a) (r : ∀ x ∈ l, P x) : ∀ x ∈ a :: l, P x := fun x hx => by
  rcases List.mem_cons.mp hx with rfl | z
  · exact h
  · exact r x z
theorem spD_imp {K : PySem.W.Frag} {R R' : List D → Out → Prop} (h : ∀ xs out, R xs out → R' xs out) : ∀ vs H Q E, spD K R vs H Q E → spD K R' vs H Q E := fun vs H Q E ⟨G, xs, out, h1, h2, h3, h4⟩ => ⟨G, xs, out, h1, h2, h xs out h3, h4⟩
abbrev scrD (ns : List Int) : D := .scr (ns.map .int)
def R_law (xs : List D) (out : Out) : Prop := ∃ ns : List Int, xs = [scrD ns] ∧ ns.length ≤ 63 ∧ out = .ret (.d (.bl true))
theorem law_rf {F : List D → M S} (h : ∀ ns : List Int, ns.length ≤ 63 → F [scrD ns] = .ok (.d (.bl true))) : ∀ xs out, R_law xs out → RF F xs out := by
  rintro _ _ ⟨ns, rfl, hl, rfl⟩
  exact .inl ⟨_, h ns hl, rfl⟩
theorem tab_none {K : PySem.W.Frag} {H G : Hp} (h : tabsK K = []) : TabOk K H G := fun P hP => by rw [h] at hP; cases hP
theorem law_asks {K : PySem.W.Frag} {H : Hp} {a : Addr} {ns : List Int} {Q : VK} {E : XK} (hl : ns.length ≤ 63) (hS : SqL K H a (ns.map V.int)) (ht : TabOk K H H) (q : ∀ H', Q (.bl true) H') : spD K R_law [.ref a] H Q E :=
  ⟨H, [scrD ns], _, ⟨.refl H, ht⟩, .cons (.scr hS (rp_ints (fun i => i) ns)) .nil, ⟨ns, rfl, hl, rfl⟩, fun v s G' H' e _ _ _ _ k => by
    cases e; obtain ⟨v', e, r⟩ := k; cases e; cases r; exact fun _ => q H', fun _ _ _ _ _ _ e => nomatch e⟩
section
variable {Hy : PySem.W.Frag → Prop} {K : PySem.W.Frag} {δ : List S}
end
def aAdd : OA := ⟨ipI fun i j => i + j, fun x y => match x, y with | .int i, .int j => some (.int (i + j)) | _, _ => none, fun K x y z h => by
  split at h
  · cases h; exact fun H G v u rv ru Q q => by cases rv; cases ru; exact ⟨_, _, rfl, rfl, q _ .int⟩
  · cases h⟩
end Far
namespace Far
open PySem L2
theorem toNat_inj : ∀ {a b : List Char}, a.map Char.toNat = b.map Char.toNat → a = b
  | [], [], _ => rfl
  | [], _ :: _, h => by cases h
  | _ :: _, [], h => by cases h
  | x :: a, y :: b, h => by
    obtain ⟨h1, h2⟩ := List.cons.inj h
    have e : x = y := Char.toNat_inj.mp h1
    rw [e, toNat_inj h2]
theorem ofString_inj {a b : String} : Str.ofString a = Str.ofString b ↔ a = b := by
  constructor
  · intro h
    rw [Str.ofString_eq_toList, Str.ofString_eq_toList] at h
    have h1 := congrArg (fun s : Str => s.cps.toList) h
    exact String.toList_inj.mp (toNat_inj h1)
  · rintro rfl; rfl
@[simp] theorem ofString_eq' (a b : String) : (Str.ofString a = Str.ofString b) = (a = b) := propext ofString_inj
@[simp] theorem ofString_beq (a b : String) : (Str.ofString a == Str.ofString b) = decide (a = b) := by
  rw [Bool.eq_iff_iff]; simp [ofString_inj]
section
variable {Hy : PySem.W.Frag → Prop} {α β : Type} {δ : List S}
@[simp] theorem sM1 {a : α} {f : α → M β} : (M.ok a).bind f = f a := (rfl)
@[simp] theorem sM2 {c : Addr} {fs : List (Str × D)} {f : α → M β} : (M.ex c fs).bind f = .ex c fs := (rfl)
@[simp] theorem sM3 {f : α → M β} : M.no.bind f = .no := (rfl)
@[simp] theorem sM4 {a : α} {f : α → M β} : (M.ok a).bin f = f a := (rfl)
@[simp] theorem sM5 {c : Addr} {fs : List (Str × D)} {f : α → M β} : (M.ex c fs).bin f = .no := (rfl)
@[simp] theorem sM6 {f : α → M β} : M.no.bin f = .no := (rfl)
@[simp] theorem sM7 {a : α} : M.of (some a) = .ok a := (rfl)
@[simp] theorem sM8 : M.of (none : Option α) = .no := (rfl)
@[simp] theorem sF1 {f : List S → Fl} : (Fl.nx δ).next f = f δ := (rfl)
@[simp] theorem sF2 {s : S} {f : List S → Fl} : (Fl.rt s).next f = .rt s := (rfl)
@[simp] theorem sF3 {f : List S → Fl} : (Fl.bk δ).next f = .bk δ := (rfl)
@[simp] theorem sF4 {f : List S → Fl} : (Fl.ct δ).next f = .ct δ := (rfl)
@[simp] theorem sF5 {c : Addr} {fs : List (Str × D)} {f : List S → Fl} : (Fl.ex δ c fs).next f = .ex δ c fs := (rfl)
@[simp] theorem sF6 {f : List S → Fl} : Fl.no.next f = .no := (rfl)
@[simp] theorem sF7 {a : α} {f : α → Fl} : Fl.exp (.ok a) δ f = f a := (rfl)
@[simp] theorem sF8 {c : Addr} {fs : List (Str × D)} {f : α → Fl} : Fl.exp (.ex c fs) δ f = .ex δ c fs := (rfl)
@[simp] theorem sF9 {a : α} {f : α → Fl} : Fl.exn (.ok a) f = f a := (rfl)
@[simp] theorem sD1 {x : D} : toD (.d x) = .ok x := (rfl)
@[simp] theorem sD2 {xs : List D} : toD (.own xs) = .ok (.lst xs) := (rfl)
@[simp] theorem sG1 {x : D} {l : List S} : gt (.d x :: l) 0 = .ok (.d x) := (rfl)
@[simp] theorem sG2 {s : S} {l : List S} {i : Nat} : gt (s :: l) (i + 1) = gt l i := gt_s
@[simp] theorem sO1 {xs : List D} {l : List S} : ow (.own xs :: l) 0 = .ok xs := (rfl)
@[simp] theorem sO2 {s : S} {l : List S} {i : Nat} : ow (s :: l) (i + 1) = ow l i := ow_s
@[simp] theorem sB1 {l : List S} {a : Option Addr} {C : Addr} {fs : List (Str × D)} : obj (.ob a C fs :: l) 0 = .ok (a, C, fs) := (rfl)
@[simp] theorem sB2 {s : S} {l : List S} {i : Nat} : obj (s :: l) (i + 1) = obj l i := obj_s
@[simp] theorem sW1 : wpF [] δ = δ := (rfl)
@[simp] theorem sW2 {i : Nat} {r : List Nat} : wpF (i :: r) δ = wpF r (δ.set i .un) := (rfl)
@[simp] theorem sE1 {b : Bool} : asB (.d (.bl b)) = .ok b := (rfl)
@[simp] theorem sE2 {b : Bool} : asBl (some (.d (.bl b))) = .ok b := (rfl)
@[simp] theorem sE3 {i : Int} : asI (.int i) = .ok (some i) := (rfl)
@[simp] theorem sfd (e : SE Hy) : e.fd δ = (e.f δ).bind toD := (rfl)
def seqF (x : D) : M (List D) := match x with | .lst xs => .ok xs | .tup xs => .ok xs | _ => .no
@[simp] theorem seqF_l {xs : List D} : seqF (.lst xs) = .ok xs := (rfl)
@[simp] theorem seqF_t {xs : List D} : seqF (.tup xs) = .ok xs := (rfl)
def tupF (x : D) : M (List D) := match x with | .tup xs => .ok xs | _ => .no
@[simp] theorem tupF_t {xs : List D} : tupF (.tup xs) = .ok xs := (rfl)
def rng1F (xs : List D) : M (List D) := match xs with | [.int n] => .ok (rg 0 n.toNat) | _ => .no
@[simp] theorem rng1F_i {n : Int} : rng1F [.int n] = .ok (rg 0 n.toNat) := (rfl)
def frzF (m : M (List D)) (δ : List S) (i : Nat) (f : List S → Fl) : Fl := match m with | .ok xs => f (δ.set i (.d (.lst xs))) | _ => f δ
@[simp] theorem frzF_ok {xs : List D} {i : Nat} {f : List S → Fl} : frzF (.ok xs) δ i f = f (δ.set i (.d (.lst xs))) := (rfl)
def fin (r : Fl) : M S := match r with | .nx _ => .ok (.d .non) | .rt s => .ok s | .ex _ c fs => .ex c fs | _ => .no
@[simp] theorem fin_nx : fin (.nx δ) = .ok (.d .non) := (rfl)
@[simp] theorem fin_rt {s : S} : fin (.rt s) = .ok s := (rfl)
@[simp] theorem fin_ex {c : Addr} {fs : List (Str × D)} : fin (.ex δ c fs) = .ex c fs := (rfl)
def finI (x C : Addr) (r : Fl) : M (List (Str × D)) := match r with
    | .nx (.ob (some x') C' fs :: _) => if x' = x ∧ C' = C then .ok fs else .no
    | .ex _ c fs => .ex c fs | _ => .no
@[simp] theorem finI_nx {x C : Addr} {fs : List (Str × D)} : finI x C (.nx (.ob (some x) C fs :: δ)) = .ok fs := by unfold finI; simp
@[simp] theorem finI_ex {x C c : Addr} {fs : List (Str × D)} : finI x C (.ex δ c fs) = .ex c fs := (rfl)
@[simp] theorem SE.var_f (i : Nat) : (SE.var i : SE Hy).f δ = gt δ i := (rfl)
@[simp] theorem SE.int_f (i : Int) : (SE.int i : SE Hy).f δ = .ok (.d (.int i)) := (rfl)
@[simp] theorem SE.bl_f (i : Bool) : (SE.bl i : SE Hy).f δ = .ok (.d (.bl i)) := (rfl)
@[simp] theorem SE.str_f (i : Str) : (SE.str i : SE Hy).f δ = .ok (.d (.str i)) := (rfl)
@[simp] theorem SE.non_f  : (SE.non : SE Hy).f δ = .ok (.d .non) := (rfl)
@[simp] theorem SE.ty_f (n : String) : (SE.ty n : SE Hy).f δ = .ok (.d (.ty n)) := (rfl)
@[simp] theorem SE.cls_f (a : Addr) : (SE.cls a : SE Hy).f δ = .ok (.d (.cls a)) := (rfl)
@[simp] theorem SA.nil_f  : (SA.nil : SA Hy).f δ = .ok [] := (rfl)
@[simp] theorem SA.cons_f (e : SE Hy) (r : SA Hy) : (SA.cons e r).f δ = (e.fd δ).bind fun x => (r.f δ).bind fun xs => .ok (x :: xs) := (rfl)
@[simp] theorem SE.op_f (o : O2) (a b : SE Hy) : (SE.op o a b).f δ = (a.fd δ).bind fun x => (b.fd δ).bind fun y => .of (o.f x y) := (rfl)
@[simp] theorem SE.un_f (o : O1) (a : SE Hy) : (SE.un o a).f δ = (a.fd δ).bind fun x => .of (o.f x) := (rfl)
@[simp] theorem SE.cb_f (o : OB Hy) (a : SA Hy) : (SE.cb o a).f δ = (a.f δ).bind fun xs => .of (o.f xs) := (rfl)
@[simp] theorem SE.tup_f (a : SA Hy) : (SE.tup a).f δ = (a.f δ).bind fun xs => if xs.length ≤ sizeLine then .ok (.d (.tup xs)) else .no := (rfl)
@[simp] theorem SE.lst_f (a : SA Hy) : (SE.lst a).f δ = (a.f δ).bind fun xs => if xs.length ≤ sizeLine then .ok (.own xs) else .no := (rfl)
@[simp] theorem SE.call_f (F : List D → M S) (a : SA Hy) : (SE.call F a).f δ = (a.f δ).bind fun xs => (F xs).bin .ok := (rfl)
@[simp] theorem SE.callX_f (F : List D → M S) (a : SA Hy) : (SE.callX F a).f δ = (a.f δ).bind F := (rfl)
@[simp] theorem SE.make_f (C : Addr) (F : Addr → List D → M (List (Str × D))) (a : SA Hy) : (SE.make C F a).f δ = (a.f δ).bind fun xs => (mkR F xs).bin fun fs => .ok (.d (.ins C fs)) := (rfl)
@[simp] theorem SE.meth_f (C : Addr) (m : Str) (F : List D → M S) (o : SE Hy) (a : SA Hy) : (SE.meth C m F o a).f δ = (o.fd δ).bind fun x => if ofC C m x = true then (a.f δ).bind fun xs => (F (x :: xs)).bin .ok else .no := (rfl)
@[simp] theorem SE.fld_f (f : Str) (Cs : List Addr) (h : FldOk Hy f Cs) (o : SE Hy) : (SE.fld f Cs h o).f δ = (o.fd δ).bind fun x => (M.of (fldF Cs f x)).bin fun y => .ok (.d y) := (rfl)
@[simp] theorem SE.orE_f (a b : SE Hy) : (SE.orE a b).f δ = (a.fd δ).bin fun x => (M.of (tru x)).bin fun k => if k = true then .ok (.d x) else (b.f δ).bin .ok := (rfl)
@[simp] theorem SE.andE_f (a b : SE Hy) : (SE.andE a b).f δ = (a.fd δ).bin fun x => (M.of (tru x)).bin fun k => if k = true then (b.f δ).bin .ok else .ok (.d x) := (rfl)
@[simp] theorem SE.notE_f (a : SE Hy) : (SE.notE a).f δ = (a.fd δ).bin fun x => (M.of (tru x)).bin fun k => .ok (.d (.bl (!k))) := (rfl)
@[simp] theorem SE.ifE_f (c : ST Hy) (a b : SE Hy) : (SE.ifE c a b).f δ = (c.f δ).bin fun k => if k = true then a.f δ else b.f δ := (rfl)
@[simp] theorem ST.of_f (e : SE Hy) : (ST.of e).f δ = (e.f δ).bin asB := (rfl)
@[simp] theorem ST.tru_f (e : SE Hy) : (ST.tru e).f δ = (e.fd δ).bin fun x => .of (Far.tru x) := (rfl)
@[simp] theorem ST.not_f (c : ST Hy) : (ST.not c).f δ = (c.f δ).bin fun b => .ok (!b) := (rfl)
@[simp] theorem ST.and_f (c e : ST Hy) : (ST.and c e).f δ = (c.f δ).bin fun b => if b = true then (e.f δ).bin .ok else .ok false := (rfl)
@[simp] theorem ST.or_f (c e : ST Hy) : (ST.or c e).f δ = (c.f δ).bin fun b => if b = true then .ok true else (e.f δ).bin .ok := (rfl)
@[simp] theorem ST.yes_f  : (ST.yes : ST Hy).f δ = .ok true := (rfl)
@[simp] theorem SE.chain_f (o p : O2) (a b c : SE Hy) : (SE.chain o p a b c).f δ = (a.fd δ).bin fun x => (b.fd δ).bin fun y => (asBl (o.f x y)).bin fun k => (c.fd δ).bin fun z => (asBl (p.f y z)).bin fun l => .ok (.d (.bl (k && l))) := (rfl)
@[simp] theorem SO.none_f  : (SO.none : SO Hy).f δ = .ok .none := (rfl)
@[simp] theorem SO.some_f (e : SE Hy) : (SO.some e).f δ = (e.fd δ).bin asI := (rfl)
@[simp] theorem SE.sl_f (a : SE Hy) (lo hi : SO Hy) : (SE.sl a lo hi).f δ = (a.fd δ).bin fun x => (lo.f δ).bin fun l => (hi.f δ).bin fun h => cutF x l h := (rfl)
@[simp] theorem SI.seq_f (e : SE Hy) : (SI.seq e).f δ = (e.fd δ).bin seqF := (rfl)
@[simp] theorem SI.tup_f (e : SE Hy) : (SI.tup e).f δ = (e.fd δ).bin tupF := (rfl)
@[simp] theorem SI.rng1_f (a : SA Hy) : (SI.rng1 a).f δ = (a.f δ).bin rng1F := (rfl)
@[simp] theorem SG.name_f (i : Nat) (x : D) : (SG.name i : SG Hy).f δ x = if i < δ.length then some (δ.set i (.d x)) else none := (rfl)
@[simp] theorem SGs.nil_f  : (SGs.nil : SGs Hy).f δ [] = some δ := (rfl)
@[simp] theorem SGs.cons_f (i : Nat) (r : SGs Hy) (x : D) (xs : List D) : (SGs.cons i r).f δ (x :: xs) = if i < δ.length then r.f (δ.set i (.d x)) xs else none := (rfl)
@[simp] theorem SG.seqT_f (n : Nat) (r : SGs Hy) (xs : List D) : (SG.seq n r).f δ (.tup xs) = if r.n = n then r.f δ xs else none := (rfl)
@[simp] theorem SG.seqL_f (n : Nat) (r : SGs Hy) (xs : List D) : (SG.seq n r).f δ (.lst xs) = if r.n = n then r.f δ xs else none := (rfl)
@[simp] theorem SG.seqU_f (n : Nat) (r : SGs Hy) (xs : List D) : (SG.seq n r).f δ (.utp xs) = if r.n = n then r.f δ xs else none := (rfl)
@[simp] theorem SGs.nil_n : (SGs.nil : SGs Hy).n = 0 := (rfl)
@[simp] theorem SGs.cons_n (i : Nat) (r : SGs Hy) : (SGs.cons i r).n = r.n + 1 := (rfl)
@[simp] theorem SGs.nil_ix : (SGs.nil : SGs Hy).ix = [] := (rfl)
@[simp] theorem SGs.cons_ix (i : Nat) (r : SGs Hy) : (SGs.cons i r).ix = i :: r.ix := (rfl)
@[simp] theorem SG.name_ix (i : Nat) : (SG.name i : SG Hy).ix = [i] := (rfl)
@[simp] theorem SG.seq_ix (n : Nat) (r : SGs Hy) : (SG.seq n r).ix = r.ix := (rfl)
@[simp] theorem SE.lc_f (i : SI Hy) (g : SG Hy) (c : ST Hy) (e : SE Hy) (vs : List Nat) : (SE.lc i g c e vs).f δ = (i.f δ).bin fun ys => if g.ix.all (fun i => vs.contains i) = true ∧ ys.length ≤ sizeLine then (lcF (lcS g c e (hide δ vs)) ys).bin fun xs => .ok (.own xs) else .no := (rfl)
@[simp] theorem SS.skip_f  : (SS.skip : SS Hy).f δ = .nx δ := (rfl)
@[simp] theorem SS.brk_f  : (SS.brk : SS Hy).f δ = .bk δ := (rfl)
@[simp] theorem SS.seq_f (a b : SS Hy) : (SS.seq a b).f δ = (a.f δ).next b.f := (rfl)
@[simp] theorem SS.ret_f (e : SE Hy) : (SS.ret e).f δ = Fl.exp (e.f δ) δ retS := (rfl)
@[simp] theorem retS_d {x : D} : retS (.d x) = .rt (.d x) := (rfl)
@[simp] theorem retS_own {x : List D} : retS (.own x) = .rt (.own x) := (rfl)
@[simp] theorem retS_okd {x : List (Key × D)} : retS (.okd x) = .rt (.okd x) := (rfl)
@[simp] theorem retS_ob {q : Option Addr} {C : Addr} {x : List (Str × D)} : retS (.ob q C x) = .rt (.ob q C x) := (rfl)
@[simp] theorem retS_un : retS .un = .rt .un := (rfl)
@[simp] theorem SS.drop_f (e : SE Hy) : (SS.drop e).f δ = Fl.exp (e.f δ) δ fun _ => .nx δ := (rfl)
@[simp] theorem SS.set_f (i : Nat) (e : SE Hy) : (SS.set i e).f δ = Fl.exp (e.f δ) δ fun s => if i < δ.length then .nx (δ.set i s) else .no := (rfl)
@[simp] theorem SS.setD_f (i : Nat) (e : SE Hy) : (SS.setD i e).f δ = Fl.exp (e.fd δ) δ fun x => if i < δ.length then .nx (δ.set i (.d x)) else .no := (rfl)
@[simp] theorem SS.asg_f (e : SE Hy) (g : SG Hy) : (SS.asg e g).f δ = Fl.exp (e.fd δ) δ fun x => Fl.exn (.of (g.f δ x)) .nx := (rfl)
@[simp] theorem SS.ite_f (c : ST Hy) (a b : SS Hy) : (SS.ite c a b).f δ = Fl.exn (c.f δ) fun k => if k = true then a.f δ else b.f δ := (rfl)
@[simp] theorem SS.raise_f (C : Addr) : (SS.raise C : SS Hy).f δ = .ex δ C [] := (rfl)
@[simp] theorem SS.never_f  : (SS.never : SS Hy).f δ = .no := (rfl)
@[simp] theorem SS.app_f (i : Nat) (e : SE Hy) : (SS.app i e).f δ = Fl.exn (ow δ i) fun xs => Fl.exn (e.fd δ) fun x => if xs.length < sizeLine then .nx (δ.set i (.own (xs ++ [x]))) else .no := (rfl)
@[simp] theorem SS.frz_f (i : Nat) (a : SS Hy) : (SS.frz i a).f δ = frzF (ow δ i) δ i a.f := (rfl)
@[simp] theorem SS.wipe_f (vs : List Nat) (a : SS Hy) : (SS.wipe vs a).f δ = a.f (wpF vs δ) := (rfl)
@[simp] theorem SS.forS_f (i : SI Hy) (g : SG Hy) (vs : List Nat) (b : SS Hy) : (SS.forS i g vs b).f δ = Fl.exn (i.f δ) fun ys => forF g.f b.f vs ys (wpF vs δ) := (rfl)
@[simp] theorem SS.whileS_f (c : ST Hy) (vs : List Nat) (b : SS Hy) : (SS.whileS c vs b).f δ = whF c.f b.f vs (wpF vs δ) := (rfl)
@[simp] theorem SS.aug_f (i : Nat) (o : OA) (e : SE Hy) : (SS.aug i o e).f δ = Fl.exn (gt δ i) fun s => Fl.exn (toD s) fun x => Fl.exn (e.fd δ) fun y => Fl.exn (.of (o.f x y)) fun z => .nx (δ.set i (.d z)) := (rfl)
@[simp] theorem SS.setF_f (i : Nat) (f : Str) (Cs : List Addr) (hf : FldOk Hy f Cs) (e : SE Hy) : (SS.setF i f Cs hf e).f δ = Fl.exn (obj δ i) fun p => Fl.exn (e.fd δ) fun x => if p.2.1 ∈ Cs ∧ p.2.2.length < 1000 then .nx (δ.set i (.ob p.1 p.2.1 (putD f x p.2.2))) else .no := (rfl)
@[simp] theorem fldF_1 {Cs : List Addr} {f : Str} {C : Addr} {fs : List (Str × D)} : fldF Cs f (.ins C fs) = if C ∈ Cs then fs.lookup f else none := (rfl)
@[simp] theorem ofC_1 {C C' : Addr} {m : Str} {fs : List (Str × D)} : ofC C m (.ins C' fs) = (decide (C' = C) && (fs.lookup m).isNone) := (rfl)
end
end Far
namespace Far
open PySem L2
section
variable {Hy : PySem.W.Frag → Prop} {i j : Int} {x y : D} {xs ys : List D} {a b : Bool}
@[simp] theorem oAdd_f : oAdd.f = addF := (rfl)
@[simp] theorem oSub_f : oSub.f = subF := (rfl)
@[simp] theorem oMul_f : oMul.f = mulF := (rfl)
@[simp] theorem oDiv_f : oDiv.f = divF := (rfl)
@[simp] theorem oMod_f : oMod.f = modF := (rfl)
@[simp] theorem oPow_f : oPow.f = powF := (rfl)
@[simp] theorem oLt_f : oLt.f = ltF := (rfl)
@[simp] theorem oLe_f : oLe.f = leF := (rfl)
@[simp] theorem oGt_f : oGt.f = gtF := (rfl)
@[simp] theorem oEq_f : oEq.f = eqF2 := (rfl)
@[simp] theorem oNe_f : oNe.f = neF2 := (rfl)
@[simp] theorem oIsN_f : oIsN.f = isNF := (rfl)
@[simp] theorem oNotN_f : oNotN.f = notNF := (rfl)
@[simp] theorem oIx_f : oIx.f = ixF := (rfl)
@[simp] theorem oNeg_f : oNeg.f = negF := (rfl)
@[simp] theorem bLen_f : (bLen : OB Hy).f = lenF := (rfl)
@[simp] theorem bMax2_f : (bMax2 : OB Hy).f = max2F := (rfl)
@[simp] theorem bMin2_f : (bMin2 : OB Hy).f = min2F := (rfl)
@[simp] theorem bAll_f : (bAll : OB Hy).f = allF := (rfl)
@[simp] theorem bTuple_f : (bTuple : OB Hy).f = tupleF := (rfl)
@[simp] theorem bIsi_f {T : Tab} {h : T.Ok Hy} : (bIsi T h).f = isiF T := (rfl)
@[simp] theorem aAdd_f : aAdd.f (.int i) (.int j) = some (.int (i + j)) := (rfl)
@[simp] theorem addF_int : addF (.int i) (.int j) = some (.d (.int (i + j))) := (rfl)
@[simp] theorem addF_lst (h : xs.length + ys.length ≤ 16777216) : addF (.lst xs) (.lst ys) = some (.own (xs ++ ys)) := if_pos (sz h)
@[simp] theorem addF_tup (h : xs.length + ys.length ≤ 16777216) : addF (.tup xs) (.tup ys) = some (.d (.tup (xs ++ ys))) := if_pos (sz h)
@[simp] theorem subF_int : subF (.int i) (.int j) = some (.d (.int (i - j))) := (rfl)
theorem mulF_int (h : CMul i j ∨ CMulW i j) : mulF (.int i) (.int j) = some (.d (.int (i * j))) := if_pos h
@[simp] theorem mulF_l (h1 : -18446744073709551616 < i) (h2 : i < 18446744073709551616) : mulF (.int i) (.int j) = some (.d (.int (i * j))) := mulF_int (.inl (.inl ⟨by omega, by omega⟩))
@[simp] theorem mulF_r (h1 : -18446744073709551616 < j) (h2 : j < 18446744073709551616) : mulF (.int i) (.int j) = some (.d (.int (i * j))) := mulF_int (.inl (.inr ⟨by omega, by omega⟩))
@[simp] theorem mulF_lst {k : Int} (h0 : 0 ≤ k) (h1 : k < 9223372036854775808) (h2 : xs.length * k.toNat ≤ 16777216) : mulF (.lst xs) (.int k) = some (.own (List.replicate k.toNat xs).flatten) := if_pos ⟨by omega, by omega, sz h2⟩
@[simp] theorem mulF_tup {k : Int} (h : xs ≠ []) (h0 : 1 ≤ k) (h1 : k ≤ 1000000) (h2 : xs.length * k.toNat ≤ 1000000) : mulF (.tup xs) (.int k) = some (.d (.tup (List.replicate k.toNat xs).flatten)) := if_pos ⟨h, h0, h2, h1⟩
theorem divF_int (h : CDivW i j) : divF (.int i) (.int j) = some (.d (.int (i / j))) := if_pos h
@[simp] theorem divF_small (h : 0 < j) (h2 : j < 1073741824) : divF (.int i) (.int j) = some (.d (.int (i / j))) := divF_int (cdiv_small h h2)
@[simp] theorem modF_int (h : 0 < j) : modF (.int i) (.int j) = some (.d (.int (i % j))) := if_pos h
@[simp] theorem powF_int (h : 0 ≤ j) (h1 : j ≤ 1000000) (h2 : i.natAbs < 18446744073709551616) : powF (.int i) (.int j) = some (.d (.int (i ^ j.toNat))) := if_pos ⟨h, h1, by omega⟩
@[simp] theorem ltF_int : ltF (.int i) (.int j) = some (.d (.bl (decide (i < j)))) := (rfl)
@[simp] theorem leF_int : leF (.int i) (.int j) = some (.d (.bl (decide (i ≤ j)))) := (rfl)
@[simp] theorem gtF_int : gtF (.int i) (.int j) = some (.d (.bl (decide (j < i)))) := (rfl)
@[simp] theorem eqF2_int : eqF2 (.int i) (.int j) = some (.d (.bl (decide (i = j)))) := (rfl)
@[simp] theorem eqF2_bl : eqF2 (.bl a) (.bl b) = some (.d (.bl (decide (a = b)))) := (rfl)
@[simp] theorem eqF2_str {a b : Str} : eqF2 (.str a) (.str b) = some (.d (.bl (decide (a = b)))) := (rfl)
@[simp] theorem eqF2_in : eqF2 (.int i) .non = some (.d (.bl false)) := (rfl)
@[simp] theorem eqF2_ni : eqF2 .non (.int i) = some (.d (.bl false)) := (rfl)
@[simp] theorem eqF2_nn : eqF2 .non .non = some (.d (.bl true)) := (rfl)
@[simp] theorem neF2_int : neF2 (.int i) (.int j) = some (.d (.bl (!decide (i = j)))) := (rfl)
@[simp] theorem neF2_bl : neF2 (.bl a) (.bl b) = some (.d (.bl (!decide (a = b)))) := (rfl)
@[simp] theorem neF2_str {a b : Str} : neF2 (.str a) (.str b) = some (.d (.bl (!decide (a = b)))) := (rfl)
@[simp] theorem neF2_in : neF2 (.int i) .non = some (.d (.bl true)) := (rfl)
@[simp] theorem neF2_ni : neF2 .non (.int i) = some (.d (.bl true)) := (rfl)
@[simp] theorem neF2_nn : neF2 .non .non = some (.d (.bl false)) := (rfl)
@[simp] theorem neF2_scr {ns : List Int} : neF2 (scrD ns) (.lst []) = some (.d (.bl (!ns.isEmpty))) := by
  have h : (ns.map D.int).all (fun x => match x with | .int _ => true | _ => false) = true := by
    rw [List.all_map, List.all_eq_true]; intro i _; rfl
  show (if (ns.map D.int).all (fun x => match x with | .int _ => true | _ => false) = true then some (ns.map D.int).isEmpty else none).map _ = _
  rw [if_pos h]
  cases ns <;> rfl
/-- of two things that can be compared -/
theorem eqF2_of (h : cmpD x y = true) (hx : ∀ zs, x ≠ .scr zs) : eqF2 x y = some (.d (.bl (eqD x y))) := by
  have e : eqB x y = some (eqD x y) := by
    unfold eqB
    split
    · simp [eqD, pd, PyData.eqv]; rw [Bool.eq_iff_iff]; simp
    · simp [eqD, pd, PyData.eqv]; rw [Bool.eq_iff_iff]; simp
    · simp [eqD, pd, PyData.eqv]; rename_i i j; cases i <;> cases j <;> rfl
    · simp [eqD, pd, PyData.eqv]
    · simp [eqD, pd, PyData.eqv]
    · simp [eqD, pd, PyData.eqv]
    · exact (hx _ rfl).elim
    · rw [if_pos h]
  unfold eqF2
  split
  · exact (hx _ rfl).elim
  · rw [e]; rfl
@[simp] theorem isNF_n : isNF x .non = some (.d (.bl (isNon x))) := (rfl)
@[simp] theorem notNF_n : notNF x .non = some (.d (.bl (!isNon x))) := (rfl)
@[simp] theorem ixF_lst : ixF (.lst xs) (.int i) = (L2.atI xs i).map .d := (rfl)
@[simp] theorem ixF_tup : ixF (.tup xs) (.int i) = (L2.atI xs i).map .d := (rfl)
@[simp] theorem ixF_scr : ixF (.scr xs) (.int i) = (L2.atI xs i).map .d := (rfl)
@[simp] theorem negF_int : negF (.int i) = some (.d (.int (-i))) := (rfl)
@[simp] theorem lenF_lst : lenF [.lst xs] = some (.d (.int xs.length)) := (rfl)
@[simp] theorem lenF_tup : lenF [.tup xs] = some (.d (.int xs.length)) := (rfl)
@[simp] theorem lenF_scr : lenF [.scr xs] = some (.d (.int xs.length)) := (rfl)
@[simp] theorem max2F_int : max2F [.int i, .int j] = some (.d (.int (max i j))) := (rfl)
@[simp] theorem min2F_int : min2F [.int i, .int j] = some (.d (.int (min i j))) := (rfl)
@[simp] theorem tupleF_lst : tupleF [.lst xs] = some (.d (.tup xs)) := (rfl)
@[simp] theorem tupleF_tup : tupleF [.tup xs] = some (.d (.tup xs)) := (rfl)
@[simp] theorem tru_bl : tru (.bl a) = some a := (rfl)
@[simp] theorem tru_non : tru .non = some false := (rfl)
@[simp] theorem tru_int : tru (.int i) = some (i != 0) := (rfl)
@[simp] theorem tru_lst : tru (.lst xs) = some (!xs.isEmpty) := (rfl)
@[simp] theorem tru_tup : tru (.tup xs) = some (!xs.isEmpty) := (rfl)
@[simp] theorem cutF_lst {lo hi : Option Int} : cutF (.lst xs) lo hi = .ok (.own (cutD xs lo hi)) := (rfl)
@[simp] theorem cutF_tup {lo hi : Option Int} : cutF (.tup xs) lo hi = .ok (.d (.tup (cutD xs lo hi))) := (rfl)
@[simp] theorem cutD_to {k : Int} (h : 0 ≤ k) : cutD xs none (some k) = xs.take k.toNat := cut_to h
@[simp] theorem cutD_from {k : Int} (h : 0 ≤ k) : cutD xs (some k) none = xs.drop k.toNat := cut_from h
@[simp] theorem one_1 : one [x] = some x := (rfl)
theorem allF_map {α : Type} (f : α → Bool) (l : List α) : allF [.lst (l.map fun x => D.bl (f x))] = some (.d (.bl (l.all f))) := by
  show (bools (l.map fun x => D.bl (f x))).map _ = _
  rw [bools_map]; simp
@[simp] theorem sizeLine_s : sizeLine = 16777216 := sizeLine_eq
theorem isi_ty1 {T : Tab} {n : String} (hk : known x = true) (hn : n ∈ ["int", "bool", "tuple", "list", "str"]) : isiF T [x, .ty n] = some (.d (.bl (isTy x n))) := by
  have h := kit_any hk hn
  have ht : tyOf T x = some (.inr (tyN x)) := by
    unfold tyOf
    split
    · simp [known] at hk
    · simp [known] at hk
    · rw [if_pos hk]
  show (tyOf T x).bind (fun t => (oneI T t (.ty n)).map fun b => S.d (.bl b)) = _
  rw [ht]
  show (kitB (tyN x) n).map _ = _
  unfold isTy
  cases e : kitB (tyN x) n with
  | none => rw [e] at h; cases h
  | some b => rfl
theorem isi_ty2 {T : Tab} {m n : String} (hk : known x = true) (hm : m ∈ ["int", "bool", "tuple", "list", "str"]) (hn : n ∈ ["int", "bool", "tuple", "list", "str"]) : isiF T [x, .tup [.ty m, .ty n]] = some (.d (.bl (isTy x m || isTy x n))) := by
  have h := kit_any hk hn
  have h1 := kit_any hk hm
  have ht : tyOf T x = some (.inr (tyN x)) := by
    unfold tyOf
    split
    · simp [known] at hk
    · simp [known] at hk
    · rw [if_pos hk]
  show (tyOf T x).bind (fun t => (anyI T t [.ty m, .ty n]).map fun b => S.d (.bl b)) = _
  rw [ht]
  unfold isTy
  cases e1 : kitB (tyN x) m with
  | none => rw [e1] at h1; cases h1
  | some b1 =>
    cases e : kitB (tyN x) n with
    | none => rw [e] at h; cases h
    | some b =>
      simp only [Option.bind, anyI, oneI, e1, e]
      cases b1 <;> cases b <;> simp [isCls]
@[simp] theorem isi_int {T : Tab} (hk : known x = true) : isiF T [x, .ty "int"] = some (.d (.bl (isTy x "int"))) := isi_ty1 hk (by simp)
@[simp] theorem isi_bool {T : Tab} (hk : known x = true) : isiF T [x, .ty "bool"] = some (.d (.bl (isTy x "bool"))) := isi_ty1 hk (by simp)
@[simp] theorem isi_tuple {T : Tab} (hk : known x = true) : isiF T [x, .ty "tuple"] = some (.d (.bl (isTy x "tuple"))) := isi_ty1 hk (by simp)
@[simp] theorem isi_list {T : Tab} (hk : known x = true) : isiF T [x, .ty "list"] = some (.d (.bl (isTy x "list"))) := isi_ty1 hk (by simp)
@[simp] theorem isi_str {T : Tab} (hk : known x = true) : isiF T [x, .ty "str"] = some (.d (.bl (isTy x "str"))) := isi_ty1 hk (by simp)
@[simp] theorem isi_tl {T : Tab} (hk : known x = true) : isiF T [x, .tup [.ty "tuple", .ty "list"]] = some (.d (.bl (isTy x "tuple" || isTy x "list"))) := isi_ty2 hk (by simp) (by simp)
@[simp] theorem isi_lt {T : Tab} (hk : known x = true) : isiF T [x, .tup [.ty "list", .ty "tuple"]] = some (.d (.bl (isTy x "list" || isTy x "tuple"))) := isi_ty2 hk (by simp) (by simp)
@[simp] theorem known_s1 : known (.int i) = true := (rfl)
@[simp] theorem known_s2 : known (.bl a) = true := (rfl)
@[simp] theorem known_s3 : known .non = true := (rfl)
@[simp] theorem known_s4 : known (.tup xs) = true := (rfl)
@[simp] theorem known_s5 : known (.lst xs) = true := (rfl)
@[simp] theorem known_s6 {z : Str} : known (.str z) = true := (rfl)
@[simp] theorem known_s7 {kvs : List (Key × D)} : known (.dK kvs) = true := (rfl)
@[simp] theorem isi_exc_cls {T : Tab} {C A : Addr} (h : C ∈ T.exc) : isiF T [.exc C [], .cls A] = (find2 T.cc C A).map fun b => .d (.bl b) := by
  have e : tyOf T (.exc C []) = some (.inl C) := if_pos h
  show (tyOf T (.exc C [])).bind (fun t => (oneI T t (.cls A)).map fun b => S.d (.bl b)) = _
  rw [e]; rfl
@[simp] theorem isi_exc_ty {T : Tab} {C : Addr} {n : String} (h : C ∈ T.exc) : isiF T [.exc C [], .ty n] = (find2 T.ct C n).map fun b => .d (.bl b) := by
  have e : tyOf T (.exc C []) = some (.inl C) := if_pos h
  show (tyOf T (.exc C [])).bind (fun t => (oneI T t (.ty n)).map fun b => S.d (.bl b)) = _
  rw [e]; rfl
@[simp] theorem isi_ins_cls {T : Tab} {C A : Addr} {fs : List (Str × D)} (h : C ∈ T.ins) : isiF T [.ins C fs, .cls A] = (find2 T.cc C A).map fun b => .d (.bl b) := by
  have e : tyOf T (.ins C fs) = some (.inl C) := if_pos h
  show (tyOf T (.ins C fs)).bind (fun t => (oneI T t (.cls A)).map fun b => S.d (.bl b)) = _
  rw [e]; rfl
@[simp] theorem find2_cons {α β : Type} [DecidableEq α] [DecidableEq β] {p : α × β × Bool} {r : List (α × β × Bool)} {a : α} {b : β} : find2 (p :: r) a b = if p.1 = a ∧ p.2.1 = b then some p.2.2 else find2 r a b := (rfl)

end
section
variable {g : List S → D → Option (List S)} {body : List S → Fl} {vs : List Nat} {δ : List S}
/-- a for by its slots ahead of each item -/
theorem forF_inv {ys : List D} (I : Nat → List S) (h : ∀ i y, ys[i]? = some y → ∃ δ1 δ2, g (I i) y = some δ1 ∧ (body δ1 = .nx δ2 ∨ body δ1 = .ct δ2) ∧ wpF vs δ2 = I (i + 1)) : forF g body vs ys (I 0) = .nx (I ys.length) := by
  have main : ∀ (n : Nat) (zs : List D), zs = ys.drop n → n ≤ ys.length → forF g body vs zs (I n) = .nx (I ys.length) := by
    intro n zs
    induction zs generalizing n with
    | nil =>
      intro e hn
      have : n = ys.length := by
        have := congrArg List.length e
        rw [List.length_drop, List.length_nil] at this; omega
      rw [this]; rfl
    | cons y r ih =>
      intro e hn
      have hlt : n < ys.length := by
        have := congrArg List.length e
        rw [List.length_drop, List.length_cons] at this; omega
      rw [List.drop_eq_getElem_cons hlt] at e
      obtain ⟨rfl, er⟩ := List.cons.inj e
      obtain ⟨δ1, δ2, h1, h2, h3⟩ := h n _ (List.getElem?_eq_getElem hlt)
      unfold forF
      rw [h1]
      rcases h2 with h2 | h2 <;> (simp only [h2]; rw [h3]; exact ih (n + 1) er hlt)
  exact main 0 ys rfl (Nat.zero_le _)
/-- .. over a range -/
theorem rg_get {lo : Int} {n i : Nat} {y : D} (h : (rg lo n)[i]? = some y) : i < n ∧ y = .int (lo + (i : Int)) := by
  unfold rg at h
  rw [List.getElem?_map, Option.map_eq_some_iff] at h
  obtain ⟨a, h1, rfl⟩ := h
  obtain ⟨h2, rfl⟩ := range_get h1
  exact ⟨h2, rfl⟩
@[simp] theorem rg_len {lo : Int} {n : Nat} : (rg lo n).length = n := by unfold rg; simp
theorem lcF_all {α : Type} {st : D → M (Option D)} {h f : α → D} : ∀ {ys : List α}, (∀ y ∈ ys, st (h y) = .ok (some (f y))) → lcF st (ys.map h) = .ok (ys.map f)
  | [], _ => rfl
  | y :: r, k => by
    show (st (h y)).bin _ = _
    rw [k y (List.mem_cons_self ..)]
    show (lcF st (r.map h)).bin _ = _
    rw [lcF_all (fun z hz => k z (List.mem_cons_of_mem _ hz))]; rfl
theorem lcF_rg {st : D → M (Option D)} {lo : Int} {n : Nat} {f : Nat → D} (h : ∀ i, i < n → st (.int (lo + (i : Int))) = .ok (some (f i))) : lcF st (rg lo n) = .ok ((List.range n).map f) :=
  lcF_all fun i hi => h i (List.mem_range.mp hi)
theorem lcF_D {st : D → M (Option D)} {f : D → D} {ys : List D} (h : ∀ y ∈ ys, st y = .ok (some (f y))) : lcF st ys = .ok (ys.map f) := by
  have := lcF_all (h := id) (f := f) h
  rwa [List.map_id] at this
end
end Far
namespace Far
open PySem L2
section
variable {Hy : PySem.W.Frag → Prop}
end
end Far
namespace Far
open PySem L2
/-- no list in it -/
def lf : D → Bool
  | .non => true | .bl _ => true | .int _ => true | .str _ => true | .ty _ => true | .cls _ => true
  | .tup xs => lfL xs | .ins _ fs => lfF fs
  | _ => false
where
  lfL : List D → Bool
    | [] => true
    | x :: r => lf x && lfL r
  lfF : List (Str × D) → Bool
    | [] => true
    | (_, x) :: r => lf x && lfF r
theorem lfL_all : ∀ xs : List D, lf.lfL xs = xs.all lf
  | [] => by simp [lf.lfL]
  | x :: r => by rw [lf.lfL, List.all_cons, lfL_all r]
theorem lfF_all : ∀ fs : List (Str × D), lf.lfF fs = fs.all fun p => lf p.2
  | [] => by simp [lf.lfF]
  | (f, x) :: r => by rw [lf.lfF, List.all_cons, lfF_all r]
section
variable {K : PySem.W.Frag} {G G2 : Hp}
mutual
theorem Rp.trim (hG : ∀ a o, G a = some o → (∀ us, o ≠ .lst us) → (∀ us, o ≠ .dK us) → ntb o = true → G2 a = some o) : ∀ {x : D} {v : V}, lf x = true → Rp K G x v → Rp K G2 x v
  | _, _, _, .non => .non
  | _, _, _, .bl => .bl
  | _, _, _, .int => .int
  | _, _, _, .str => .str
  | _, _, _, .ty => .ty
  | _, _, _, .cls => .cls
  | _, _, l, .tup h r => .tup (h.imp (fun ⟨o, h1, h2⟩ => ⟨o, hG _ _ h1 (fun us z => by cases z) (fun us z => by cases z) rfl, h2⟩) id) (RpL.trim hG (by simpa [lf] using l) r)
  | _, _, l, .utp h r => by simp [lf] at l
  | _, _, l, .lst h r => by simp [lf] at l
  | _, _, l, .scr h r => by simp [lf] at l
  | _, _, l, .ins h r => .ins (hG _ _ h (fun us z => by cases z) (fun us z => by cases z) rfl) (RpF.trim hG (by simpa [lf] using l) r)
  | _, _, l, .dK h r => by simp [lf] at l
  | _, _, l, .dP h r => by simp [lf] at l
  | _, _, l, .dO h => by simp [lf] at l
  | _, _, l, .dT h r => by simp [lf] at l
  | _, _, l, .dU h r => by simp [lf] at l
  | _, _, l, .exc0 h => by simp [lf] at l
  | _, _, l, .exc1 h h2 r n => by simp [lf] at l
  | _, _, l, .exo h => by simp [lf] at l
  | _, _, l, .lam h r => by simp [lf] at l
theorem RpL.trim (hG : ∀ a o, G a = some o → (∀ us, o ≠ .lst us) → (∀ us, o ≠ .dK us) → ntb o = true → G2 a = some o) : ∀ {xs : List D} {vs : List V}, lf.lfL xs = true → RpL K G xs vs → RpL K G2 xs vs
  | _, _, _, .nil => .nil
  | _, _, l, .cons h r => by
    rw [lf.lfL, Bool.and_eq_true] at l
    exact .cons (Rp.trim hG l.1 h) (RpL.trim hG l.2 r)
theorem RpF.trim (hG : ∀ a o, G a = some o → (∀ us, o ≠ .lst us) → (∀ us, o ≠ .dK us) → ntb o = true → G2 a = some o) : ∀ {xs : List (Str × D)} {vs : List (Str × V)}, lf.lfF xs = true → RpF K G xs vs → RpF K G2 xs vs
  | _, _, _, .nil => .nil
  | _, _, l, .cons h r => by
    rw [lf.lfF, Bool.and_eq_true] at l
    exact .cons (Rp.trim hG l.1 h) (RpF.trim hG l.2 r)
end
end
section
variable {Hy : PySem.W.Frag → Prop}
@[simp] theorem lf_non : lf .non = true := by rw [lf]
@[simp] theorem lf_bl {b : Bool} : lf (.bl b) = true := by rw [lf]
@[simp] theorem lf_int {b : Int} : lf (.int b) = true := by rw [lf]
@[simp] theorem lf_str {b : Str} : lf (.str b) = true := by rw [lf]
@[simp] theorem lf_tup {xs : List D} : lf (.tup xs) = xs.all lf := by rw [lf]; exact lfL_all xs
@[simp] theorem lf_ins {C : Addr} {fs : List (Str × D)} : lf (.ins C fs) = fs.all fun p => lf p.2 := by rw [lf]; exact lfF_all fs
end
end Far
namespace Far
open PySem L2 PySem.Spec PyProof.Rows
section
variable {prog : Program} {w : World} {Ar : Around} {Ex' : Value → Shared → Prop} {s : Shared}
end
section
variable {X : Cx} {e : Expr} {te : L2.St → Hp → (Int → Int → Hp → Prop) → Prop}
end
end Far
namespace Far
open PySem L2 PySem.Spec PyProof.Rows HT
section
variable {prog : Program} {w : World} {A : Around} {E : Value → Shared → Prop} {s : Shared}
end
section
variable {X : Cx}
end
section
variable {K : PySem.W.Frag} {δ : List S} {te : TE} {xs : List D}
end
end Far
namespace Far
open PySem L2
/-- no instance in it -/
def ni : D → Bool
  | .non => true | .bl _ => true | .int _ => true | .str _ => true | .ty _ => true | .cls _ => true
  | .tup xs => niL xs | .lst xs => niL xs | .utp xs => niL xs | .scr xs => niL xs
  | _ => false
where
  niL : List D → Bool
    | [] => true
    | x :: r => ni x && niL r
theorem niL_all : ∀ xs : List D, ni.niL xs = xs.all ni
  | [] => by simp [ni.niL]
  | x :: r => by rw [ni.niL, List.all_cons, niL_all r]
section
variable {K : PySem.W.Frag} {G G2 : Hp}
mutual
theorem Rp.trimI (hG : ∀ a o, G a = some o → (∀ C dx gs, o ≠ .ins C dx gs) → G2 a = some o) : ∀ {x : D} {v : V}, ni x = true → Rp K G x v → Rp K G2 x v
  | _, _, _, .non => .non
  | _, _, _, .bl => .bl
  | _, _, _, .int => .int
  | _, _, _, .str => .str
  | _, _, _, .ty => .ty
  | _, _, _, .cls => .cls
  | _, _, l, .tup h r => .tup (h.imp (fun ⟨o, h1, h2⟩ => ⟨o, hG _ _ h1 (fun _ _ _ z => by cases z), h2⟩) id) (RpL.trimI hG (by simpa [ni] using l) r)
  | _, _, l, .utp h r => .utp (h.imp (fun h => h.imp (fun h => hG _ _ h (fun _ _ _ z => by cases z)) (fun ⟨o, h⟩ => ⟨o, hG _ _ h (fun _ _ _ z => by cases z)⟩)) id) (RpL.trimI hG (by simpa [ni] using l) r)
  | _, _, l, .lst h r => .lst (hG _ _ h (fun _ _ _ z => by cases z)) (RpL.trimI hG (by simpa [ni] using l) r)
  | _, _, l, .scr h r => .scr (h.imp (fun h => h.imp (fun h => hG _ _ h (fun _ _ _ z => by cases z)) (fun ⟨o, h⟩ => ⟨o, hG _ _ h (fun _ _ _ z => by cases z)⟩)) id) (RpL.trimI hG (by simpa [ni] using l) r)
  | _, _, l, .ins h r => by simp [ni] at l
  | _, _, l, .dK h r => by simp [ni] at l
  | _, _, l, .dP h r => by simp [ni] at l
  | _, _, l, .dO h => by simp [ni] at l
  | _, _, l, .dT h r => by simp [ni] at l
  | _, _, l, .dU h r => by simp [ni] at l
  | _, _, l, .exc0 h => by simp [ni] at l
  | _, _, l, .exc1 h h2 r n => by simp [ni] at l
  | _, _, l, .exo h => by simp [ni] at l
  | _, _, l, .lam h r => by simp [ni] at l
theorem RpL.trimI (hG : ∀ a o, G a = some o → (∀ C dx gs, o ≠ .ins C dx gs) → G2 a = some o) : ∀ {xs : List D} {vs : List V}, ni.niL xs = true → RpL K G xs vs → RpL K G2 xs vs
  | _, _, _, .nil => .nil
  | _, _, l, .cons h r => by
    rw [ni.niL, Bool.and_eq_true] at l
    exact .cons (Rp.trimI hG l.1 h) (RpL.trimI hG l.2 r)
end
theorem RpF.trimI (hG : ∀ a o, G a = some o → (∀ C dx gs, o ≠ .ins C dx gs) → G2 a = some o) : ∀ {fs : List (Str × D)} {gs : List (Str × V)}, (fs.all fun p => ni p.2) = true → RpF K G fs gs → RpF K G2 fs gs
  | _, _, _, .nil => .nil
  | _, _, l, .cons h r => by
    rw [List.all_cons, Bool.and_eq_true] at l
    exact .cons (Rp.trimI hG l.1 h) (RpF.trimI hG l.2 r)
end
section
variable {K : PySem.W.Frag} {He Ge H G : Hp} {σ : L2.St} {δ : List S}
end
section
variable {Hy : PySem.W.Frag → Prop}
@[simp] theorem ni_non : ni .non = true := by rw [ni]
@[simp] theorem ni_bl {b : Bool} : ni (.bl b) = true := by rw [ni]
@[simp] theorem ni_int {b : Int} : ni (.int b) = true := by rw [ni]
@[simp] theorem ni_str {b : Str} : ni (.str b) = true := by rw [ni]
@[simp] theorem ni_tup {xs : List D} : ni (.tup xs) = xs.all ni := by rw [ni]; exact niL_all xs
@[simp] theorem ni_lst {xs : List D} : ni (.lst xs) = xs.all ni := by rw [ni]; exact niL_all xs
end
end Far
namespace Far
open PySem L2
section
variable {Hy : PySem.W.Frag → Prop}
end
end Far
namespace Far
open PySem L2
section
variable {Hy : PySem.W.Frag → Prop}
end
end Far
namespace Far
open PySem L2 PySem.Spec PyProof.Rows
structure FnOkG (P : Program) (w : World) (K : PySem.W.Frag) (mg : Str → Option Value) (base : Heap) (CX : CXT) (k : Nat) (f : Addr) (fd : FuncData) (ps : List Str) (sp : Sp) : Prop where
  len : ∀ vs H Q E, sp vs H Q E → vs.length = ps.length
  run : ∀ (A : Around) (outer : List Env) (s : Shared) (H : Hp) (args : Args) (us : List Value) (vs : List V) (Q : VK) (E : XK), A.guards = some [] →
    Room k A → Env0 P w K mg base A outer s H → BindsTo s fd args (ps.zip us) → Vals vs us → sp vs H Q E → codeAny (model P w) A (.call (.ref f) args) (CR CX outer P w H s Q E) s
section
variable {CX : CXT} {P : Program} {w : World} {K : PySem.W.Frag} {mg : Str → Option Value} {base : Heap}
theorem FnOkG.imp {k : Nat} {f : Addr} {fd : FuncData} {ps : List Str} {sp sp' : Sp} (F : FnOkG P w K mg base CX k f fd ps sp) (h : ∀ vs H Q E, sp' vs H Q E → sp vs H Q E) : FnOkG P w K mg base CX k f fd ps sp' :=
  ⟨fun vs H Q E q => F.len vs H Q E (h vs H Q E q), fun A outer s H args us vs Q E g hr he hb hv hs => F.run A outer s H args us vs Q E g hr he hb hv (h vs H Q E hs)⟩
end
section
variable {X : Cx} {CX : CXT} {k : Nat} {f : Addr} {fd : FuncData} {ps : List Str} {sp : Sp} {dvs : List V} {ds : List Value} {E : XK}
end
end Far
namespace Far
open PySem L2 PySem.Spec PyProof.Rows
mutual
def pyd : D → PyData
  | .non => .none
  | .bl b => .bool b
  | .int i => .int i
  | .str w => .str w
  | .lst xs => .list (pydL xs)
  | .tup xs => .tuple (pydL xs)
  | .dK kvs => .dict (pydK kvs)
  | _ => .none
def pydK : List (Key × D) → List (PyData × PyData)
  | [] => []
  | (.inl i, x) :: xs => (.int i, pyd x) :: pydK xs
  | (.inr w, x) :: xs => (.str w, pyd x) :: pydK xs
def pydL : List D → List PyData
  | [] => []
  | x :: xs => pyd x :: pydL xs
end
mutual
/-- what holds no dict -/
def okn : D → Bool
  | .non => true
  | .bl _ => true
  | .int _ => true
  | .str _ => true
  | .lst xs => oknL xs
  | .tup xs => oknL xs
  | _ => false
def oknL : List D → Bool
  | [] => true
  | x :: xs => okn x && oknL xs
end
mutual
def okd : D → Bool
  | .non => true
  | .bl _ => true
  | .int _ => true
  | .str _ => true
  | .lst xs => okdL xs
  | .tup xs => okdL xs
  | .dK kvs => kvs.all fun q => okn q.2
  | _ => false
def okdL : List D → Bool
  | [] => true
  | x :: xs => okd x && okdL xs
end
section
variable {X : Cx} {pins : List (Addr × Obj)} {σ : L2.St} {H G : Hp} {s : Shared}
theorem readsAll_nil {h : Heap} {ds : List PyData} {as : List Addr} (r : ReadsAll h [] ds as) : ds = [] := by cases r; rfl
mutual
theorem reads_of (I : Inv X pins σ H s) (e : Ex G H) : ∀ {x : D} {v : V} {u : Value}, Rp X.K G x v → okn x = true → RelV v u → ∃ as, Reads s.heap u (pyd x) as ∧ (pyd x).hasDict = false
  | .non, _, _, .non, _, r => by cases r; exact ⟨_, by unfold pyd; exact .none, by unfold pyd; rfl⟩
  | .bl b, _, _, .bl, _, r => by cases r; exact ⟨_, by unfold pyd; exact .bool b, by unfold pyd; rfl⟩
  | .int i, _, _, .int, _, r => by obtain ⟨t, rfl⟩ := r; exact ⟨_, by unfold pyd; exact .int i t, by unfold pyd; rfl⟩
  | .str w, _, _, .str, _, r => by obtain ⟨t, rfl⟩ := r; exact ⟨_, by unfold pyd; exact .str w t, by unfold pyd; rfl⟩
  | .lst xs, _, _, .lst (a := a) hp hr, ok, r => by
    cases r
    unfold okn at ok
    unfold pyd
    obtain ⟨its, rv, ⟨o, n, ho, hc, hdn, hd⟩, hlen⟩ := I.list (SqL.of (e _ _ hp))
    obtain ⟨as, ra, nd⟩ := readsL_of I e hr ok rv
    exact ⟨_, .list ho hc hd (by simpa using ra), by simpa [PyData.hasDict] using nd⟩
  | .tup xs, _, _, .tup (a := a) hp hr, ok, r => by
    cases r
    unfold okn at ok
    unfold pyd
    obtain ⟨its, rv, ⟨o, ho, hc, n, hd⟩, hlen⟩ := I.tuple (e.t hp.t)
    obtain ⟨as, ra, nd⟩ := readsL_of I e hr ok rv
    exact ⟨_, .tuple ho hc hd (by simpa using ra), by simpa [PyData.hasDict] using nd⟩
  | .dK _, _, _, _, ok, _ => by unfold okn at ok; cases ok
  | .dP _, _, _, _, ok, _ => by unfold okn at ok; cases ok
  | .ty _, _, _, _, ok, _ => by unfold okn at ok; cases ok
  | .cls _, _, _, _, ok, _ => by unfold okn at ok; cases ok
  | .utp _, _, _, _, ok, _ => by unfold okn at ok; cases ok
  | .scr _, _, _, _, ok, _ => by unfold okn at ok; cases ok
  | .ins _ _, _, _, _, ok, _ => by unfold okn at ok; cases ok
  | .exc _ _, _, _, _, ok, _ => by unfold okn at ok; cases ok
  | .dO _, _, _, _, ok, _ => by unfold okn at ok; cases ok
  | .dT _, _, _, _, ok, _ => by unfold okn at ok; cases ok
  | .dU _, _, _, _, ok, _ => by unfold okn at ok; cases ok
  | .lam _ _ _ _ _, _, _, _, ok, _ => by unfold okn at ok; cases ok
theorem readsL_of (I : Inv X pins σ H s) (e : Ex G H) : ∀ {xs : List D} {vs : List V} {us : List Value}, RpL X.K G xs vs → oknL xs = true → Vals vs us → ∃ as, ReadsAll s.heap us (pydL xs) as ∧ PyData.hasDictAll (pydL xs) = false
  | [], _, _, .nil, _, .nil => ⟨_, .nil, by unfold pydL PyData.hasDictAll; rfl⟩
  | x :: xs, _, _, .cons hx hr, ok, .cons r rs => by
    unfold oknL at ok
    rw [Bool.and_eq_true] at ok
    unfold pydL
    obtain ⟨a1, r1, n1⟩ := reads_of I e hx ok.1 r
    obtain ⟨a2, r2, n2⟩ := readsL_of I e hr ok.2 rs
    exact ⟨_, .cons r1 r2, by unfold PyData.hasDictAll; rw [n1, n2]; rfl⟩
end
theorem readsK_of {P : Program} {w : World} (I : Inv X pins σ H s) (e : Ex G H) : ∀ {kvs : List (Key × D)} {gs : List (Key × V)} {vs : List (Key × Value)} {es : List DictEntry}, RpK X.K G kvs gs → (kvs.all fun q => okn q.2) = true → KV gs vs → Pairs (mixKind P w) es vs →
    ∃ as bs, ReadsAll s.heap (es.map (·.key)) ((pydK kvs).map (·.1)) as ∧ ReadsAll s.heap (es.map (·.val)) ((pydK kvs).map (·.2)) bs ∧ PyData.hasDictAll ((pydK kvs).map (·.1)) = false ∧ PyData.hasDictAll ((pydK kvs).map (·.2)) = false
  | [], _, _, _, .nil, _, .nil, .nil => ⟨_, _, .nil, .nil, by unfold pydK PyData.hasDictAll; rfl, by unfold pydK PyData.hasDictAll; rfl⟩
  | (k, x) :: xs, _, _, _, .cons hx hr, ok, .cons (b := b) r rs, .cons (e := e') hk hv hp => by
    rw [List.all_cons, Bool.and_eq_true] at ok
    obtain ⟨a2, b2, r1, r2, n1, n2⟩ := readsK_of I e hr ok.2 rs hp
    obtain ⟨a3, r3, n3⟩ := reads_of I e hx ok.1 (r.2)
    rw [← hv] at r3
    have e1 := r.1
    simp only at e1
    rw [← e1] at hk
    rcases keyIs_shape hk with ⟨i, t, ez, ek⟩ | ⟨w, t, ez, ek⟩
    · subst ez
      refine ⟨_, _, .cons (by show Reads s.heap e'.key _ _; rw [ek]; exact .int i t) r1, .cons r3 r2, ?_, ?_⟩
      · unfold pydK; simp only [List.map_cons]; unfold PyData.hasDictAll; rw [n1]; rfl
      · unfold pydK; simp only [List.map_cons]; unfold PyData.hasDictAll; rw [n2, n3]; rfl
    · subst ez
      refine ⟨_, _, .cons (by show Reads s.heap e'.key _ _; rw [ek]; exact .str w t) r1, .cons r3 r2, ?_, ?_⟩
      · unfold pydK; simp only [List.map_cons]; unfold PyData.hasDictAll; rw [n1]; rfl
      · unfold pydK; simp only [List.map_cons]; unfold PyData.hasDictAll; rw [n2, n3]; rfl
/-- a dict's entries as they are told -/
theorem entK_of (I : Inv X pins σ H s) (e : Ex G H) {kvs : List (Key × D)} {gs : List (Key × V)} {a : Addr} (hp : G a = some (.dK gs)) (hr : RpK X.K G kvs gs) (ok : (kvs.all fun q => okn q.2) = true) (hs : (PyData.dict (pydK kvs)).showable = true)
    (hz : (PyData.dict (pydK kvs)).shown.length ≤ sizeLine) : ∃ o es n as, s.heap.get? a = some o ∧ o.cls = .type "dict" ∧ o.data = .dict es n ∧ (a == sysModules) = false ∧ Reads s.heap (.ref a) (.dict (pydK kvs)) as ∧
    ∃ bs, ReadAtMost s.heap (PyData.depthKv (pydK kvs)) bs ∧ a ∉ bs ∧ ReprEntriesK X.prog X.w bs s.heap (PyData.depthKv (pydK kvs)) es.toList (PyData.shownKv (pydK kvs)) := by
  obtain ⟨_, hsys, vs, rel, o, es, ep, ho, hx, hd, _, hps, _⟩ := dk_of I.hok (e _ _ hp)
  obtain ⟨as, bs, r1, r2, n1, n2⟩ := readsK_of I e hr ok rel hps
  have r : Reads s.heap (.ref a) (.dict (pydK kvs)) _ := .dict ho hx.1 hd r1 r2
  have hz' : (dictText (PyData.shownKv (pydK kvs))).length ≤ sizeLine := by simpa only [PyData.shown] using hz
  obtain ⟨hs1, hs2⟩ := PyData.showableKv_split (pydK kvs) (by simpa [PyData.showable] using hs)
  obtain ⟨b1, hb1, k1⟩ := ReprAllK.of_readsAll (prog := X.prog) (w := X.w) r1 hs1 (fun z => by rw [n1] at z; cases z) fun t ht => by
    obtain ⟨p, hp, hl⟩ := PyData.shownKv_key_le _ t ht
    exact Nat.le_trans hl (Nat.le_trans (dictText_mem_le hp) hz')
  obtain ⟨b2, hb2, k2⟩ := ReprAllK.of_readsAll (prog := X.prog) (w := X.w) r2 hs2 (fun z => by rw [n2] at z; cases z) fun t ht => by
    obtain ⟨p, hp, hl⟩ := PyData.shownKv_val_le _ t ht
    exact Nat.le_trans hl (Nat.le_trans (dictText_mem_le hp) hz')
  have hb : ReadAtMost s.heap (PyData.depthKv (pydK kvs)) (b1 ++ b2) := (hb1.mono (PyData.depthAll_keys_le _)).append (hb2.mono (PyData.depthAll_vals_le _))
  refine ⟨o, es, ep, _, ho, hx.1, hd, hsys, r, b1 ++ b2, hb, not_mem_of_deeper r (by simp only [PyData.depth]; omega) hb, ?_⟩
  rw [PyData.shownKv_eq]
  exact ReprEntriesK.of_two es.toList _ _ (k1.more_le (fun b hb => List.mem_append_left _ hb) (PyData.depthAll_keys_le _)) (k2.more_le (fun b hb => List.mem_append_right _ hb) (PyData.depthAll_vals_le _))
mutual
theorem rk_of (I : Inv X pins σ H s) (e : Ex G H) : ∀ {x : D} {v : V} {u : Value}, Rp X.K G x v → okd x = true → RelV v u → (pyd x).showable = true → (pyd x).shown.length ≤ sizeLine →
    ∃ as bs, Reads s.heap u (pyd x) as ∧ ReadAtMost s.heap (pyd x).depth bs ∧ ReprK X.prog X.w bs s.heap (pyd x).depth u (pyd x).shown
  | .non, _, _, .non, _, r, _, _ => by cases r; exact ⟨_, [], by unfold pyd; exact .none, (fun _ h => nomatch h), by unfold pyd; simp only [PyData.shown]; exact .of_is ReprIs.none _ _ _⟩
  | .bl b, _, _, .bl, _, r, _, _ => by cases r; exact ⟨_, [], by unfold pyd; exact .bool b, (fun _ h => nomatch h), by unfold pyd; simp only [PyData.shown]; exact .of_is (ReprIs.bool b) _ _ _⟩
  | .int i, _, _, .int, _, r, hs, _ => by obtain ⟨t, rfl⟩ := r; exact ⟨_, [], by unfold pyd; exact .int i t, (fun _ h => nomatch h), by unfold pyd at hs ⊢; simp only [PyData.shown]; exact .of_is (ReprIs.int t (by simpa [PyData.showable] using hs)) _ _ _⟩
  | .str w, _, _, .str, _, r, _, hz => by obtain ⟨t, rfl⟩ := r; exact ⟨_, [], by unfold pyd; exact .str w t, (fun _ h => nomatch h), by unfold pyd at hz ⊢; simp only [PyData.shown]; exact .of_is (ReprIs.str w t (by simpa only [PyData.shown] using hz)) _ _ _⟩
  | .lst xs, _, _, .lst (a := a) hp hr, ok, r, hs, hz => by
    cases r
    unfold okd at ok
    unfold pyd at hs hz ⊢
    obtain ⟨its, rv, ⟨o, n, ho, hc, hdn, hd⟩, hlen⟩ := I.list (SqL.of (e _ _ hp))
    have hz' : (listText (PyData.shownAll (pydL xs))).length ≤ sizeLine := by simpa only [PyData.shown] using hz
    obtain ⟨as, bs, ra, hb, hk⟩ := rkL_of I e hr ok rv (by simpa [PyData.showable] using hs) fun t ht => Nat.le_trans (listText_mem_le ht) hz'
    have r : Reads s.heap (.ref a) (.list (pydL xs)) _ := .list ho hc hd (by simpa using ra)
    have hna : a ∉ bs := not_mem_of_deeper r (by simp only [PyData.depth]; omega) hb
    refine ⟨_, a :: bs, r, ReadAtMost.cons r (by simp only [PyData.depth]; omega) hb, ?_⟩
    simp only [PyData.depth, PyData.shown]
    cases its with
    | nil =>
      have z : pydL xs = [] := readsAll_nil ra
      rw [z]
      simp only [PyData.shownAll, listText_nil]
      exact ReprK.listEmpty ho hc hd
    | cons x l => exact ReprK.list ho hc hd hna (by simpa using hk.length_eq) (fun i y e => hk.item i y (by simpa using e))
  | .tup xs, _, _, .tup (a := a) hp hr, ok, r, hs, hz => by
    cases r
    unfold okd at ok
    unfold pyd at hs hz ⊢
    obtain ⟨its, rv, ⟨o, ho, hc, n, hd⟩, hlen⟩ := I.tuple (e.t hp.t)
    have hz' : (tupleText (PyData.shownAll (pydL xs))).length ≤ sizeLine := by simpa only [PyData.shown] using hz
    obtain ⟨as, bs, ra, hb, hk⟩ := rkL_of I e hr ok rv (by simpa [PyData.showable] using hs) fun t ht => Nat.le_trans (tupleText_mem_le ht) hz'
    have r : Reads s.heap (.ref a) (.tuple (pydL xs)) _ := .tuple ho hc hd (by simpa using ra)
    have hna : a ∉ bs := not_mem_of_deeper r (by simp only [PyData.depth]; omega) hb
    refine ⟨_, a :: bs, r, ReadAtMost.cons r (by simp only [PyData.depth]; omega) hb, ?_⟩
    simp only [PyData.depth, PyData.shown]
    exact ReprK.tuple ho hc hd hna (by simpa using hk)
  | .dK kvs, _, _, .dK (a := a) hp hr, ok, r, hs, hz => by
    cases r
    unfold okd at ok
    unfold pyd at hs hz ⊢
    obtain ⟨o, es, n, as, ho, hc, hd, hsys, r, bs, hb, hna, hE⟩ := entK_of I e hp hr ok hs hz
    refine ⟨as, a :: bs, r, ReadAtMost.cons r (by simp only [PyData.depth]; omega) hb, ?_⟩
    simp only [PyData.depth, PyData.shown]
    exact ReprK.dict ho hc hd hsys hna hE
  | .ty _, _, _, _, ok, _, _, _ => by unfold okd at ok; cases ok
  | .cls _, _, _, _, ok, _, _, _ => by unfold okd at ok; cases ok
  | .utp _, _, _, _, ok, _, _, _ => by unfold okd at ok; cases ok
  | .scr _, _, _, _, ok, _, _, _ => by unfold okd at ok; cases ok
  | .ins _ _, _, _, _, ok, _, _, _ => by unfold okd at ok; cases ok
  | .exc _ _, _, _, _, ok, _, _, _ => by unfold okd at ok; cases ok
  | .dO _, _, _, _, ok, _, _, _ => by unfold okd at ok; cases ok
  | .dT _, _, _, _, ok, _, _, _ => by unfold okd at ok; cases ok
  | .dU _, _, _, _, ok, _, _, _ => by unfold okd at ok; cases ok
  | .dP _, _, _, _, ok, _, _, _ => by unfold okd at ok; cases ok
  | .lam _ _ _ _ _, _, _, _, ok, _, _, _ => by unfold okd at ok; cases ok
theorem rkL_of (I : Inv X pins σ H s) (e : Ex G H) : ∀ {xs : List D} {vs : List V} {us : List Value}, RpL X.K G xs vs → okdL xs = true → Vals vs us → PyData.showableAll (pydL xs) = true → (∀ t ∈ PyData.shownAll (pydL xs), t.length ≤ sizeLine) →
    ∃ as bs, ReadsAll s.heap us (pydL xs) as ∧ ReadAtMost s.heap (PyData.depthAll (pydL xs)) bs ∧ ReprAllK X.prog X.w bs s.heap (PyData.depthAll (pydL xs)) us (PyData.shownAll (pydL xs))
  | [], _, _, .nil, _, .nil, _, _ => ⟨_, [], .nil, (fun _ h => nomatch h), by unfold pydL; simp only [PyData.shownAll]; exact .nil⟩
  | x :: xs, _, _, .cons hx hr, ok, .cons r rs, hs, hz => by
    unfold okdL at ok
    rw [Bool.and_eq_true] at ok
    unfold pydL at hs hz ⊢
    have hs' : (pyd x).showable = true ∧ PyData.showableAll (pydL xs) = true := by simpa [PyData.showableAll] using hs
    obtain ⟨a1, b1, r1, hb1, k1⟩ := rk_of I e hx ok.1 r hs'.1 (hz _ (by simp only [PyData.shownAll]; exact List.mem_cons_self ..))
    obtain ⟨a2, b2, r2, hb2, k2⟩ := rkL_of I e hr ok.2 rs hs'.2 fun t ht => hz t (by simp only [PyData.shownAll]; exact List.mem_cons_of_mem _ ht)
    refine ⟨_, b1 ++ b2, .cons r1 r2, ?_, ?_⟩
    · simp only [PyData.depthAll]
      exact (hb1.mono (Nat.le_max_left _ _)).append (hb2.mono (Nat.le_max_right _ _))
    · simp only [PyData.depthAll, PyData.shownAll]
      exact .cons ((k1.more fun b hb => List.mem_append_left _ hb).level_le (Nat.le_max_left _ _)) (k2.more_le (fun b hb => List.mem_append_right _ hb) (Nat.le_max_right _ _))
end
/-- what may be told of: small enough, and not too deep -/
def okR (x : D) : Bool := okd x && (pyd x).showable && decide ((pyd x).shown.length ≤ sizeLine) && decide ((pyd x).depth ≤ 100)
end
end Far
namespace Far
open PySem L2
theorem _root_.PySem.L2.Room.rep {k : Nat} {A : Around} (h : Room k A) : A.units + 200 < cLine := by have := h.un; omega
end Far
namespace Far
open PySem L2 PySem.Spec PyProof.Rows
section
end
end Far
namespace Far
open PySem L2 PyProof.Rows
section
variable {X : Cx} {pins : List (Addr × Obj)} {σ : L2.St} {H : Hp} {s : Shared}
end
section
variable {X : Cx} {CX : CXT} {k : Nat} {f : Addr} {fd : FuncData} {ps : List Str} {sp : Sp} {E : XK} {a it S : Addr} {all : List Int}
end
end Far
namespace Far
open PySem L2
section
variable {K : PySem.W.Frag} {δ : List S} {F : List D → M S} {ta : TA} {s : S} {ns : List Int} {E : XK}
end
variable {Hy : PySem.W.Frag → Prop}
section
variable {F : List D → M S} {a : SA Hy} {δ : List S} {xs : List D}
end
end Far
namespace Far
open PySem L2
def zipD : List D → List D → List D
  | x :: xs, y :: ys => .utp [x, y] :: zipD xs ys
  | _, _ => []
theorem zipD_len : ∀ (xs ys : List D), (zipD xs ys).length = min xs.length ys.length
  | [], _ => by simp [zipD]
  | _ :: _, [] => by simp [zipD]
  | _ :: xs, _ :: ys => by simp [zipD, zipD_len xs ys]
theorem zipD_get : ∀ (xs ys : List D) (i : Nat) (x y : D), xs[i]? = some x → ys[i]? = some y → (zipD xs ys)[i]? = some (.utp [x, y])
  | [], _, _, _, _, h, _ => by simp at h
  | _ :: _, [], _, _, _, _, h => by simp at h
  | a :: xs, b :: ys, 0, x, y, h1, h2 => by simp at h1 h2; subst h1 h2; rfl
  | a :: xs, b :: ys, i + 1, x, y, h1, h2 => zipD_get xs ys i x y (by simpa using h1) (by simpa using h2)
section
variable {K : PySem.W.Frag} {δ : List S}
theorem grow_tup {H G1 : Hp} {T : Addr} {xs : List D} {vs : List V} (e2 : Ex G1 H) (hT : H T = none) (r : RpL K G1 xs vs) : ∃ G2, Ex H (upd H T (.tup vs)) ∧ Ex G1 G2 ∧ Ex G2 (upd H T (.tup vs)) ∧ Nw K H G1 (upd H T (.tup vs)) G2 ∧ Rp K G2 (.utp xs) (.ref T) := by
  have hg : G1 T = none := e2.none hT
  refine ⟨upd G1 T (.tup vs), .new hT, .new hg, e2.both, ⟨fun b h1 h2 => ?_, fun t => t.new hT (.new hg)⟩, .utp (.inl (.inl upd_same)) (r.mono (.new hg))⟩
  · rw [upd_ne (fun q => h1 (by rw [q]; exact hT))]; exact h2
theorem jig_zip {G : Hp} {a b : Addr} {vs us : List V} {xs ys : List D} (hp : G a = some (.lst vs)) (hq : G b = some (.lst us)) (r : RpL K G xs vs) (s : RpL K G ys us) : JIg K G (Itz K a b) (zipD xs ys) := fun H G1 e1 e2 => by
  have h := SqL.of (K := K) (e2 _ _ (e1 _ _ hp))
  have k := SqL.of (K := K) (e2 _ _ (e1 _ _ hq))
  have hl := r.length
  have kl := s.length
  rw [zipD_len]
  refine ⟨fun i hi => ⟨vs, us, vs[i], us[i], h, k, List.getElem?_eq_getElem (by omega), List.getElem?_eq_getElem (by omega)⟩, fun i v H' hy hi => ?_, fun i hi => ⟨vs, us, h, k, by omega⟩⟩
  obtain ⟨T, x, z, rfl, hT, rfl, hx, hz⟩ := hy
  obtain ⟨y, ey, ry⟩ := r.getV (hx vs h)
  obtain ⟨w, ew, rw_⟩ := s.getV (hz us k)
  obtain ⟨G2, g1, g2, g3, g4, rp⟩ := grow_tup (K := K) (xs := [y, w]) (vs := [x, z]) e2 hT (.cons (ry.mono e1) (.cons (rw_.mono e1) .nil))
  exact ⟨G2, _, g1, g2, g3, g4, zipD_get xs ys i y w ey ew, rp⟩
theorem ei_zip {tr : TA} {xs ys : List D} (h : EA K tr δ [.lst xs, .lst ys]) : EI K (iZip K tr) δ (zipD xs ys) := by
  intro He Ge H τo τs σ hl ok R q
  refine h He Ge H τo τs σ hl ok _ fun vs H1 G ok1 r1 => ?_
  cases r1 with
  | cons r1 r2 =>
    cases r2 with
    | cons r2 r3 =>
      cases r3
      cases r1 with
      | lst hp r =>
        cases r2 with
        | lst hq s => exact ⟨_, _, _, _, rfl, SqL.of (ok1.gh _ _ hp), SqL.of (ok1.gh _ _ hq), q _ H1 G ok1 (jig_zip hp hq r s)⟩
end
section
variable {Hy : PySem.W.Frag → Prop}
def zipF (xs : List D) : M (List D) := match xs with | [.lst xs, .lst ys] => .ok (zipD xs ys) | _ => .no
def SI.zip (a : SA Hy) : SI Hy where
  t K W := iZip K (a.t K W)
  f δ := (a.f δ).bin zipF
  ok K hk W δ := by
    cases h : a.f δ with
    | ok xs =>
      rw [M.ok_bin]
      unfold zipF
      split
      · exact ei_zip (a.okA hk h)
      · trivial
    | _ => trivial
@[simp] theorem SI.zip_f (a : SA Hy) (δ : List S) : (SI.zip a).f δ = (a.f δ).bin zipF := (rfl)
@[simp] theorem zipF_l {xs ys : List D} : zipF [.lst xs, .lst ys] = .ok (zipD xs ys) := (rfl)
end
end Far
namespace Far
open PySem L2
def keyD : D → Option Key
  | .int i => some (.inl i) | .str x => some (.inr x) | _ => none
def valD (kvs : List (Key × D)) (k : Key) : Option D := (kvs.find? fun kv => decide (kv.1 = k)).map (·.2)
def putKD (kvs : List (Key × D)) (k : Key) (v : D) : List (Key × D) := if (kvs.any fun kv => decide (kv.1 = k)) = true then kvs.map (fun kv => if kv.1 = k then (kv.1, v) else kv) else kvs ++ [(k, v)]
def mergeKD (kvs more : List (Key × D)) : List (Key × D) := more.foldl (fun acc kv => putKD acc kv.1 kv.2) kvs
section
variable {K : PySem.W.Frag} {H G : Hp} {δ : List S}
theorem keyD_rp {x : D} {v : V} {k : Key} (h : keyD x = some k) (r : Rp K G x v) : v = kV k := by
  cases r <;> simp only [keyD] at h <;> (first | (cases h; rfl) | (cases h; done))
theorem RpK.length : ∀ {xs : List (Key × D)} {vs : List (Key × V)}, RpK K G xs vs → xs.length = vs.length
  | _, _, .nil => rfl
  | _, _, .cons _ r => congrArg (· + 1) r.length
theorem RpK.val {k : Key} : ∀ {xs : List (Key × D)} {vs : List (Key × V)}, RpK K G xs vs → (∀ x, valD xs k = some x → ∃ v, valV vs k = some v ∧ Rp K G x v) ∧ (valD xs k = none → valV vs k = none)
  | _, _, .nil => ⟨fun x h => (by cases h), fun _ => rfl⟩
  | _, _, .cons (f := f) (x := x) (v := v) (xs := xs) (vs := vs) h r => by
    unfold valD valV
    rw [List.find?_cons, List.find?_cons]
    by_cases e : f = k
    · simp only [e, decide_true]
      exact ⟨fun y hy => by cases hy; exact ⟨_, rfl, h⟩, fun z => nomatch z⟩
    · simp only [decide_eq_false e]
      exact RpK.val r
theorem RpK.any {k : Key} : ∀ {xs : List (Key × D)} {vs : List (Key × V)}, RpK K G xs vs → (xs.any fun kv => decide (kv.1 = k)) = (vs.any fun kv => decide (kv.1 = k))
  | _, _, .nil => rfl
  | _, _, .cons h r => by rw [List.any_cons, List.any_cons, r.any]
theorem RpK.app : ∀ {xs ys : List (Key × D)} {vs us : List (Key × V)}, RpK K G xs vs → RpK K G ys us → RpK K G (xs ++ ys) (vs ++ us)
  | _, _, _, _, .nil, s => s
  | _, _, _, _, .cons h r, s => .cons h (r.app s)
theorem RpK.repl {k : Key} {y : D} {u : V} (hy : Rp K G y u) : ∀ {xs : List (Key × D)} {vs : List (Key × V)}, RpK K G xs vs → RpK K G (xs.map fun kv => if kv.1 = k then (kv.1, y) else kv) (vs.map fun kv => if kv.1 = k then (kv.1, u) else kv)
  | _, _, .nil => .nil
  | _, _, .cons (f := f) h r => by
    rw [List.map_cons, List.map_cons]
    by_cases e : f = k
    · simp only [e, if_true]; exact .cons hy (r.repl hy)
    · simp only [e, if_false]; exact .cons h (r.repl hy)
theorem RpK.put {k : Key} {y : D} {u : V} {xs : List (Key × D)} {vs : List (Key × V)} (r : RpK K G xs vs) (hy : Rp K G y u) : RpK K G (putKD xs k y) (putK vs k u) := by
  unfold putKD putK
  rw [r.any]
  split
  · exact r.repl hy
  · exact r.app (.cons hy .nil)
theorem RpK.merge : ∀ {more : List (Key × D)} {mv : List (Key × V)} {xs : List (Key × D)} {vs : List (Key × V)}, RpK K G xs vs → RpK K G more mv → RpK K G (mergeKD xs more) (mergeK vs mv)
  | _, _, _, _, r, .nil => r
  | _, _, _, _, r, .cons (f := f) h m => (let z := RpK.merge (RpK.put (k := f) r h) m; z)
variable {te tk tv td : TE} {x y : D} {k : Key} {kvs : List (Key × D)}
/-- x is data that is a dict, changed no more -/
def IsDK (x : D) (kvs : List (Key × D)) : Prop := x = .dK kvs ∨ x = .dP kvs
theorem IsDK.rp {x : D} {kvs : List (Key × D)} {v : V} (h : IsDK x kvs) (r : Rp K G x v) : ∃ (a : Addr) (gs : List (Key × V)), v = .ref a ∧ Rd G a (.dK gs) ∧ RpK K G kvs gs := by
  rcases h with rfl | rfl
  · cases r with
    | dK hp rk => exact ⟨_, _, rfl, .inl hp, rk⟩
  · cases r with
    | dP hp rk => exact ⟨_, _, rfl, .inr ⟨_, hp⟩, rk⟩
theorem ev_dget {c : D} (hc : IsDK c kvs) (h1 : EV K td δ (.d c)) (h2 : EV K tk δ (.d x)) (hk : keyD x = some k) (hv : valD kvs k = some y) : EV K (tDGet td tk) δ (.d y) := by
  intro He Ge H τo τs σ hl ok Q q
  refine h1 He Ge H τo τs σ hl ok _ fun v H1 ok1 => ?_
  refine h2 He Ge H1 (some v :: τo) (.d c :: τs) σ (by simp [hl]) ok1 _ fun u H2 ⟨G, ok2⟩ => ?_
  obtain ⟨_, e1, r1⟩ := ok2.top
  obtain ⟨_, e2, r2⟩ := ok2.pop.top
  cases e1; cases e2
  obtain ⟨a, gs, rfl, hp, rk⟩ := hc.rp r2
  obtain ⟨w, ew, rw_⟩ := (rk.val (k := k)).1 y hv
  exact ⟨_, w, rfl, .inl ⟨_, k, ok2.gh.rd hp, keyD_rp hk r1, ew.symm⟩, q _ _ ⟨G, ok2.pop.pop.pushD rw_⟩⟩
theorem ev_din {c : D} (hc : IsDK c kvs) (h1 : EV K tk δ (.d x)) (h2 : EV K td δ (.d c)) (hk : keyD x = some k) : EV K (tDIn tk td) δ (.d (.bl (valD kvs k).isSome)) := by
  intro He Ge H τo τs σ hl ok Q q
  refine h1 He Ge H τo τs σ hl ok _ fun v H1 ok1 => ?_
  refine h2 He Ge H1 (some v :: τo) (.d x :: τs) σ (by simp [hl]) ok1 _ fun u H2 ⟨G, ok2⟩ => ?_
  obtain ⟨_, e1, r1⟩ := ok2.top
  obtain ⟨_, e2, r2⟩ := ok2.pop.top
  cases e1; cases e2
  obtain ⟨a, gs, rfl, hp, rk⟩ := hc.rp r1
  have rv := rk.val (k := k)
  refine ⟨_, valV gs k, rfl, .inl ⟨_, k, ok2.gh.rd hp, keyD_rp hk r2, rfl⟩, q _ _ ⟨G, ?_⟩⟩
  have e : (valV gs k).isSome = (valD kvs k).isSome := by
    cases h : valD kvs k with
    | none => rw [rv.2 h]; rfl
    | some y => obtain ⟨w, ew, _⟩ := rv.1 y h; rw [ew]; rfl
  rw [e]
  exact ok2.pop.pop.pushD .bl
/-- the pairs of a dict written out -/
def EP2 (K : PySem.W.Frag) (trs : List (TE × TE)) (δ : List S) (kvs : List (Key × D)) : Prop := ∀ (He Ge H : Hp) (τo : St) (τs : List S) (σ : St), τo.length = τs.length → OK K He Ge H (τo ++ σ) (τs ++ δ) →
  ∀ Q : List (V × V) → Hp → Prop, (∀ gs H' G', OKG K He Ge H' G' (τo ++ σ) (τs ++ δ) → RpK K G' kvs gs → Q (gs.map fun kv => (kV kv.1, kv.2)) H') → tPairs trs σ H Q
theorem ep_nil : EP2 K [] δ [] := fun He Ge H τo τs σ hl ⟨G, ok⟩ Q q => q [] H G ok .nil
theorem ep_cons {trs : List (TE × TE)} (h1 : EV K tk δ (.d x)) (hk : keyD x = some k) (h2 : EV K tv δ (.d y)) (h3 : EP2 K trs δ kvs) : EP2 K ((tk, tv) :: trs) δ ((k, y) :: kvs) := by
  intro He Ge H τo τs σ hl ok Q q
  show tk σ H fun x4 H1 => tv σ H1 fun y4 H2 => tPairs trs σ H2 fun ps H3 => Q ((x4, y4) :: ps) H3
  refine h1 He Ge H τo τs σ hl ok _ fun v H1 ok1 => ?_
  refine h2 He Ge H1 (some v :: τo) (.d x :: τs) σ (by simp [hl]) ok1 _ fun u H2 ok2 => ?_
  refine h3 He Ge H2 (some u :: some v :: τo) (.d y :: .d x :: τs) σ (by simp [hl]) ok2 _ fun gs H3 G ok3 r => ?_
  obtain ⟨_, e1, r1⟩ := ok3.top
  obtain ⟨_, e2, r2⟩ := ok3.pop.top
  cases e1; cases e2
  have := q ((k, u) :: gs) H3 G ok3.pop.pop (.cons r1 r)
  rw [List.map_cons] at this
  rw [keyD_rp hk r2]
  exact this
theorem OKG.newK {He Ge H G : Hp} {σ : St} {δ : List S} {p : Addr} {xs : List (Key × D)} {vs : List (Key × V)} (ok : OKG K He Ge H G σ δ) (hp : H p = none) (r : RpK K G xs vs) : OKG K He Ge (upd H p (.dK vs)) G (some (.ref p) :: σ) (.okd xs :: δ) := by
  refine (ok.newH hp).push ⟨p, vs, rfl, ok.he.none hp, ok.gh.none hp, upd_same, r⟩ fun _ j t p' e hj ho eσ => ?_
  cases e
  obtain ⟨o, eo, k⟩ := ok.sl j t hj
  rw [eo] at eσ
  cases eσ
  cases t with
  | un => cases ho
  | ot _ _ _ => cases ho
  | d x => cases ho
  | own ys => obtain ⟨p', vs', e, _, _, h3, _⟩ := k; cases e; rw [hp] at h3; cases h3
  | okd ys => obtain ⟨p', vs', e, _, _, h3, _⟩ := k; cases e; rw [hp] at h3; cases h3
  | okt ys => obtain ⟨p', vs', e, _, _, h3, _⟩ := k; cases e; rw [hp] at h3; cases h3
  | oko ys => obtain ⟨p', vs', e, _, _, h3⟩ := k; cases e; rw [hp] at h3; cases h3
  | ob q C fs => obtain ⟨a, dx, gs, e, _, _, _, _, _, h5, _⟩ := k; cases e; rw [hp] at h5; cases h5
theorem ev_dnewO : EV K tDNewK δ (.okd []) := by
  intro He Ge H τo τs σ hl ⟨G, ok⟩ Q q
  exact fun p hp => q _ _ ⟨G, ok.newK hp .nil⟩
variable {W : WX} {N B Ct : List S → Prop} {Rt : S → List S → Prop} {Xc : List S → Addr → List (Str × D) → Prop}
theorem sd_dput {i : Nat} (hi : δ[i]? = some (.okd kvs)) (h1 : EV K tv δ (.d y)) (h2 : EV K tk δ (.d x)) (hk : keyD x = some k) (hz : kvs.length < sizeLine) (n : N (δ.set i (.okd (putKD kvs k y)))) : SD K W (sDPut (tVar i) tk tv) δ N Rt B Ct Xc := by
  intro He Ge H σ Dn ok nx r bk ct xx
  refine ev0 h1 ok fun v H1 ok1 => ?_
  obtain ⟨G1, okk⟩ := id ok1
  obtain ⟨o, eo, p, vs, rfl, k1, k2, k3, rv⟩ := okk.pop.sl i _ hi
  refine ⟨_, eo, ?_⟩
  refine h2 He Ge H1 [some v] [.d y] σ rfl ok1 _ fun u H2 ⟨G, ok2⟩ => ?_
  obtain ⟨_, e1, r1⟩ := ok2.top
  obtain ⟨_, e2, r2⟩ := ok2.pop.top
  cases e1; cases e2
  obtain ⟨o2, eo2, p2, vs2, e3, j1, j2, j3, rv2⟩ := ok2.pop.pop.sl i _ hi
  have eo2 : σ[i]? = some o2 := eo2
  rw [eo] at eo2
  cases eo2; cases e3
  exact ⟨p, _, rfl, .inl ⟨vs2, k, j3, keyD_rp hk r1, by rw [← rv2.length]; exact hz, rfl⟩, nx _ _ _ ⟨G, OKG.changeK ok2.pop.pop hi eo j3 (rv2.put r2)⟩ n⟩
end
section
variable {Hy : PySem.W.Frag → Prop}
/-- slot i a dict of one's own -/
def okD : List S → Nat → M (List (Key × D))
  | .okd kvs :: _, 0 => .ok kvs
  | _ :: l, i + 1 => okD l i
  | _, _ => .no
@[simp] theorem okD_0 {l : List S} {kvs : List (Key × D)} : okD (.okd kvs :: l) 0 = .ok kvs := (rfl)
theorem okD_s {l : List S} {s : S} {i : Nat} : okD (s :: l) (i + 1) = okD l i := by cases s <;> rfl
theorem okD_ok : ∀ {δ : List S} {i : Nat} {kvs : List (Key × D)}, okD δ i = .ok kvs → δ[i]? = some (.okd kvs)
  | [], i, s, h => by cases i <;> cases h
  | a :: l, 0, s, h => by cases a <;> cases h; rfl
  | a :: l, i + 1, s, h => by rw [okD_s] at h; simpa using okD_ok h
structure SP (Hy : PySem.W.Frag → Prop) where
  t : PySem.W.Frag → WX → List (TE × TE)
  f : List S → M (List (Key × D))
  ok : ∀ K, Hy K → ∀ W δ kvs, f δ = .ok kvs → EP2 K (t K W) δ kvs
def SP.nil : SP Hy := ⟨fun _ _ => [], fun _ => .ok [], fun K hk W δ kvs h => by cases h; exact ep_nil⟩
def SP.cons (a b : SE Hy) (r : SP Hy) : SP Hy where
  t K W := (a.t K W, b.t K W) :: r.t K W
  f δ := (a.fd δ).bin fun x => (M.of (keyD x)).bin fun k => (b.fd δ).bin fun y => (r.f δ).bin fun l => .ok ((k, y) :: l)
  ok K hk W δ kvs h := by
    cases h1 : a.fd δ with
    | ok x =>
      cases h2 : keyD x with
      | some k =>
        cases h3 : b.fd δ with
        | ok y =>
          cases h4 : r.f δ with
          | ok l =>
            simp only [h1, M.ok_bin, h2, M.of_some, h3, h4] at h
            cases h
            exact ep_cons (a.okD hk h1) h2 (b.okD hk h3) (r.ok K hk W δ l h4)
          | _ => simp only [h1, M.ok_bin, h2, M.of_some, h3, h4] at h; cases h
        | _ => simp only [h1, M.ok_bin, h2, M.of_some, h3] at h; cases h
      | none => simp only [h1, M.ok_bin, h2] at h; cases h
    | _ => simp only [h1] at h; cases h
/-- {} that is changed later -/
def SE.dnewO : SE Hy := ⟨fun _ _ => tDNewK, fun _ => .ok (.okd []), fun _ _ _ _ => ev_dnewO⟩
def asDK : D → M (List (Key × D)) | .dK kvs => .ok kvs | .dP kvs => .ok kvs | _ => .no
@[simp] theorem asDK_dK {kvs : List (Key × D)} : asDK (.dK kvs) = .ok kvs := (rfl)
@[simp] theorem asDK_dP {kvs : List (Key × D)} : asDK (.dP kvs) = .ok kvs := (rfl)
theorem asDK_to {x : D} {kvs : List (Key × D)} (h : asDK x = .ok kvs) : IsDK x kvs := by
  cases x <;> cases h
  · exact .inl rfl
  · exact .inr rfl
/-- d[k] -/
def SE.dget (o i : SE Hy) : SE Hy where
  t K W := tDGet (o.t K W) (i.t K W)
  f δ := (o.fd δ).bin fun x => (asDK x).bin fun kvs => (i.fd δ).bin fun y => (M.of (keyD y)).bin fun k => (M.of (valD kvs k)).bin fun z => .ok (.d z)
  ok K hk W δ := by
    cases h1 : o.fd δ with
    | ok x =>
      cases h2 : asDK x with
      | ok kvs =>
        cases h3 : i.fd δ with
        | ok y =>
          cases h4 : keyD y with
          | some k =>
            cases h5 : valD kvs k with
            | some z =>
              simp only [M.ok_bin, h2, h3, h4, M.of_some, h5]
              exact ev_dget (asDK_to h2) (o.okD hk h1) (i.okD hk h3) h4 h5
            | none => simp only [M.ok_bin, h2, h3, h4, M.of_some, h5]; trivial
          | none => simp only [M.ok_bin, h2, h3, h4]; trivial
        | _ => simp only [M.ok_bin, h2, h3]; trivial
      | _ => simp only [M.ok_bin, h2]; trivial
    | _ => trivial
/-- k in d, k not in d -/
def SE.din (i o : SE Hy) : SE Hy where
  t K W := tDIn (i.t K W) (o.t K W)
  f δ := (i.fd δ).bin fun y => (M.of (keyD y)).bin fun k => (o.fd δ).bin fun x => (asDK x).bin fun kvs => .ok (.d (.bl (valD kvs k).isSome))
  ok K hk W δ := by
    cases h1 : i.fd δ with
    | ok y =>
      cases h2 : keyD y with
      | some k =>
        cases h3 : o.fd δ with
        | ok x =>
          cases h4 : asDK x with
          | ok kvs =>
            simp only [M.ok_bin, h2, h3, M.of_some, h4]
            exact ev_din (asDK_to h4) (i.okD hk h1) (o.okD hk h3) h2
          | _ => simp only [M.ok_bin, h2, h3, M.of_some, h4]; trivial
        | _ => simp only [M.ok_bin, h2, h3, M.of_some]; trivial
      | none => simp only [M.ok_bin, h2]; trivial
    | _ => trivial
/-- a test by `in` of a dict -/
def ST.ofB (e : SE Hy) : ST Hy where
  t K W := tB (e.t K W)
  f δ := (e.f δ).bin asB
  ok K hk W δ := by
    cases h : e.f δ with
    | ok s =>
      rw [M.ok_bin]
      cases h1 : asB s with
      | ok b =>
        have : s = .d (.bl b) := by
          cases s with
          | d x => cases x <;> cases h1; rfl
          | _ => cases h1
        subst this
        exact eb_B (e.okS hk h)
      | _ => trivial
    | _ => trivial
/-- d[k] = e, d a dict of one's own in slot i -/
def SS.dput (i : Nat) (kx e : SE Hy) : SS Hy where
  t K W := sDPut (tVar i) (kx.t K W) (e.t K W)
  f δ := Fl.exn (okD δ i) fun kvs => Fl.exn (e.fd δ) fun y => Fl.exn (kx.fd δ) fun x => Fl.exn (.of (keyD x)) fun k => if kvs.length < sizeLine then .nx (δ.set i (.okd (putKD kvs k y))) else .no
  ok K hk W δ := by
    cases h1 : okD δ i with
    | ok kvs =>
      cases h2 : e.fd δ with
      | ok y =>
        cases h3 : kx.fd δ with
        | ok x =>
          cases h4 : keyD x with
          | some k =>
            simp only [Fl.ok_exn, h4, M.of_some]
            by_cases z : kvs.length < sizeLine
            · rw [if_pos z]; exact sd_dput (okD_ok h1) (e.okD hk h2) (kx.okD hk h3) h4 z rfl
            · rw [if_neg z]; trivial
          | none => simp only [Fl.ok_exn, h4]; trivial
        | _ => trivial
      | _ => trivial
    | _ => trivial
/-- from here on the dict in slot i is data -/
theorem OKG.freezeAtK {K : PySem.W.Frag} {He Ge H G : Hp} {σ : St} {δ : List S} {kvs : List (Key × D)} {i : Nat} (ok : OKG K He Ge H G σ δ) (hi : δ[i]? = some (.okd kvs)) : ∃ G', OKG K He Ge H G' σ (δ.set i (.d (.dK kvs))) := by
  obtain ⟨o, eo, p, vs, rfl, h1, h2, h3, r⟩ := ok.sl i _ hi
  have hlt : i < δ.length := (List.getElem?_eq_some_iff.mp hi).1
  have g1 : Ex G (upd G p (.dK vs)) := .new h2
  refine ⟨upd G p (.dK vs), ok.ge.trans g1, ok.gh.lay h3, ok.he, ⟨fun b b1 b2 => ?_, ok.nc.t0, ok.nc.tb.mono (fun _ _ e => e) g1⟩, fun j s hj => ?_, fun j k s t p' hjk hj hk o1 o2 e1 e2 => ?_⟩
  · rw [upd_ne (fun z => b1 (by rw [z]; exact h1))]; exact ok.nc b b1 b2
  · by_cases z : i = j
    · subst z
      rw [List.getElem?_set_self hlt] at hj; cases hj
      exact ⟨_, eo, _, rfl, .dK upd_same (r.mono g1)⟩
    · rw [List.getElem?_set_ne z] at hj
      obtain ⟨o, e, k⟩ := ok.sl j s hj
      refine ⟨o, e, ?_⟩
      cases s with
      | un => trivial
      | ot _ _ _ => trivial
      | d x => obtain ⟨v, e1, r'⟩ := k; exact ⟨v, e1, r'.mono g1⟩
      | own ys =>
        obtain ⟨p2, vs2, rfl, k1, k2, k3, r2⟩ := k
        have ne : p2 ≠ p := fun y => ok.ne i j _ _ p z hi hj rfl rfl eo (by rw [← y]; exact e)
        exact ⟨p2, vs2, rfl, k1, by rw [upd_ne ne]; exact k2, k3, r2.mono g1⟩
      | okd ys =>
        obtain ⟨p2, vs2, rfl, k1, k2, k3, r2⟩ := k
        have ne : p2 ≠ p := fun y => ok.ne i j _ _ p z hi hj rfl rfl eo (by rw [← y]; exact e)
        exact ⟨p2, vs2, rfl, k1, by rw [upd_ne ne]; exact k2, k3, r2.mono g1⟩
      | okt ys =>
        obtain ⟨p2, vs2, rfl, k1, k2, k3, r2⟩ := k
        have ne : p2 ≠ p := fun y => ok.ne i j _ _ p z hi hj rfl rfl eo (by rw [← y]; exact e)
        exact ⟨p2, vs2, rfl, k1, by rw [upd_ne ne]; exact k2, k3, r2.mono g1⟩
      | oko ys =>
        obtain ⟨p2, vs2, rfl, k1, k2, k3⟩ := k
        have ne : p2 ≠ p := fun y => ok.ne i j _ _ p z hi hj rfl rfl eo (by rw [← y]; exact e)
        exact ⟨p2, vs2, rfl, k1, by rw [upd_ne ne]; exact k2, k3⟩
      | ob q C fs =>
        obtain ⟨a, dx, gs, rfl, kq, k1, k2, k3, k4, k5, k6, r'⟩ := k
        have n1 : a ≠ p := fun y => by rw [y, h3] at k5; cases k5
        have n2 : dx ≠ p := fun y => by rw [y, h3] at k6; cases k6
        exact ⟨a, dx, gs, rfl, kq, k1, by rw [upd_ne n1]; exact k2, k3, by rw [upd_ne n2]; exact k4, k5, k6, r'.mono g1⟩
  · have un : ∀ (m : Nat) (s : S), (δ.set i (.d (.dK kvs)))[m]? = some s → owned s = true → δ[m]? = some s := fun m s q1 q2 => by
      by_cases z : i = m
      · subst z; rw [List.getElem?_set_self hlt] at q1; cases q1; cases q2
      · rw [List.getElem?_set_ne z] at q1; exact q1
    exact ok.ne j k s t p' hjk (un j s hj o1) (un k t hk o2) o1 o2 e1 e2
def frzKF (m : M (List (Key × D))) (δ : List S) (i : Nat) (f : List S → Fl) : Fl := match m with | .ok xs => f (δ.set i (.d (.dK xs))) | _ => f δ
@[simp] theorem frzKF_ok {xs : List (Key × D)} {δ : List S} {i : Nat} {f : List S → Fl} : frzKF (.ok xs) δ i f = f (δ.set i (.d (.dK xs))) := (rfl)
def SS.frzK (i : Nat) (a : SS Hy) : SS Hy where
  t K W := a.t K W
  f δ := frzKF (okD δ i) δ i a.f
  ok K hk W δ := by
    cases h : okD δ i with
    | ok xs =>
      refine sdf_of fun n => fun He Ge H σ Dn ⟨G, ok⟩ nx r bk ct xx => ?_
      obtain ⟨G', ok'⟩ := ok.freezeAtK (okD_ok h)
      exact a.okR hk n He Ge H σ Dn ⟨G', ok'⟩ nx r bk ct xx
    | _ => exact a.ok K hk W δ
variable {δ : List S}
@[simp] theorem okD_s1 {s : S} {l : List S} {i : Nat} : okD (s :: l) (i + 1) = okD l i := okD_s
@[simp] theorem SP.nil_f : (SP.nil : SP Hy).f δ = .ok [] := (rfl)
@[simp] theorem SP.cons_f (a b : SE Hy) (r : SP Hy) : (SP.cons a b r).f δ = (a.fd δ).bin fun x => (M.of (keyD x)).bin fun k => (b.fd δ).bin fun y => (r.f δ).bin fun l => .ok ((k, y) :: l) := (rfl)
@[simp] theorem SE.dnewO_f : (SE.dnewO : SE Hy).f δ = .ok (.okd []) := (rfl)
@[simp] theorem SE.dget_f (o i : SE Hy) : (SE.dget o i).f δ = (o.fd δ).bin fun x => (asDK x).bin fun kvs => (i.fd δ).bin fun y => (M.of (keyD y)).bin fun k => (M.of (valD kvs k)).bin fun z => .ok (.d z) := (rfl)
@[simp] theorem SE.din_f (i o : SE Hy) : (SE.din i o).f δ = (i.fd δ).bin fun y => (M.of (keyD y)).bin fun k => (o.fd δ).bin fun x => (asDK x).bin fun kvs => .ok (.d (.bl (valD kvs k).isSome)) := (rfl)
@[simp] theorem SS.dput_f (i : Nat) (kx e : SE Hy) : (SS.dput i kx e).f δ = Fl.exn (okD δ i) fun kvs => Fl.exn (e.fd δ) fun y => Fl.exn (kx.fd δ) fun x => Fl.exn (.of (keyD x)) fun k => if kvs.length < sizeLine then .nx (δ.set i (.okd (putKD kvs k y))) else .no := (rfl)
@[simp] theorem ST.ofB_f (e : SE Hy) : (ST.ofB e).f δ = (e.f δ).bin asB := (rfl)
@[simp] theorem SS.frzK_f (i : Nat) (a : SS Hy) : (SS.frzK i a).f δ = frzKF (okD δ i) δ i a.f := (rfl)
@[simp] theorem keyD_int {i : Int} : keyD (.int i) = some (.inl i) := (rfl)
@[simp] theorem keyD_str {x : Str} : keyD (.str x) = some (.inr x) := (rfl)
@[simp] theorem toD_okdS {kvs : List (Key × D)} : toD (.okd kvs) = .ok (.dK kvs) := (rfl)
@[simp] theorem isi_exc_tup {T : Tab} {C : Addr} {cs : List D} (h : C ∈ T.exc) : isiF T [.exc C [], .tup cs] = (anyI T (.inl C) cs).map fun b => .d (.bl b) := by
  have e : tyOf T (.exc C []) = some (.inl C) := if_pos h
  show (tyOf T (.exc C [])).bind (fun t => (anyI T t cs).map fun b => S.d (.bl b)) = _
  rw [e]; rfl
@[simp] theorem anyI_nil {T : Tab} {t : Addr ⊕ String} : anyI T t [] = some false := (rfl)
@[simp] theorem anyI_cls {T : Tab} {C A : Addr} {r : List D} : anyI T (.inl C) (.cls A :: r) = match find2 T.cc C A with | some true => if r.all isCls = true then some true else none | some false => anyI T (.inl C) r | none => none := (rfl)
end
end Far
namespace Far
open PySem L2
section
variable {K : PySem.W.Frag} {δ : List S}
end
section
variable {Hy : PySem.W.Frag → Prop}
end
section
variable {P : Program} {w : World} {K : PySem.W.Frag} {mg : Str → Option Value} {base : Heap} {k : Nat}
end
end Far
namespace Far
open PySem L2
section
variable {K : PySem.W.Frag} {δ : List S} {te : TE} {xs : List D} {tl th : TO} {lo hi : Option Int}
end
section
variable {Hy : PySem.W.Frag → Prop}
end
end Far
namespace Far
open PySem L2
section
variable {K : PySem.W.Frag} {δ : List S} {te : TE} {tr : TA} {x : D} {A xs B : List D}
def EAO (K : PySem.W.Frag) (ta : TA) (δ : List S) (A xs B : List D) : Prop := ∀ (He Ge H : Hp) (τo : L2.St) (τs : List S) (σ : L2.St), τo.length = τs.length → OK K He Ge H (τo ++ σ) (τs ++ δ) →
  ∀ Q : List V → Hp → Prop, (∀ (vs us ws : List V) (q : Addr) (H' G' : Hp), OKG K He Ge H' G' (τo ++ σ) (τs ++ δ) → RpL K G' A vs → RpL K G' B ws → He q = none → G' q = none → H' q = some (.lst us) → RpL K G' xs us → Q (vs ++ .ref q :: ws) H') → ta σ H Q
theorem eao_cons (h : EV K te δ (.d x)) (hr : EAO K tr δ A xs B) : EAO K (tCons te tr) δ (x :: A) xs B := by
  intro He Ge H τo τs σ hl ok Q q
  refine h He Ge H τo τs σ hl ok _ fun v H1 ok1 => ?_
  refine hr He Ge H1 (some v :: τo) (.d x :: τs) σ (by simp [hl]) ok1 _ fun vs us ws p H2 G2 ok2 r1 r2 h1 h2 h3 r => ?_
  obtain ⟨_, e, rx⟩ := ok2.top
  cases e
  exact q (v :: vs) us ws p H2 G2 ok2.pop (.cons rx r1) r2 h1 h2 h3 r
/-- names that take such a tuple apart -/
def ETo (K : PySem.W.Frag) (gs : TGs) (δ : List S) (A xs B : List D) (δ' : List S) : Prop := ∀ (He Ge H G : Hp) (σ : L2.St) (vs us ws : List V) (q : Addr), OKG K He Ge H G σ δ → RpL K G A vs → RpL K G B ws → He q = none → G q = none → H q = some (.lst us) → RpL K G xs us →
  (∀ (j : Nat) (t : S), δ[j]? = some t → owned t = true → σ[j]? ≠ some (some (.ref q))) → ∀ Q : L2.St → Hp → Prop, (∀ σ', OKG K He Ge H G σ' δ' → Q σ' H) → gs (vs ++ .ref q :: ws) σ H Q
theorem own_keep {i q : Nat} {s : S} {o : Option V} {σ : L2.St} (hk : ∀ (j : Nat) (t : S), δ[j]? = some t → owned t = true → σ[j]? ≠ some (some (.ref q))) (hs : owned s = false) : ∀ (j : Nat) (t : S), (δ.set i s)[j]? = some t → owned t = true → (σ.set i o)[j]? ≠ some (some (.ref q)) := fun j t e ho => by
  by_cases z : i = j
  · subst z
    have hl : i < δ.length := by
      have := (List.getElem?_eq_some_iff.mp e).1
      rwa [List.length_set] at this
    rw [List.getElem?_set_self hl] at e; cases e; rw [hs] at ho; cases ho
  · rw [List.getElem?_set_ne z] at e ⊢
    exact hk j t e ho
theorem eto_cons {i : Nat} {gs : TGs} {δ' : List S} (hi : i < δ.length) (h : ETo K gs (δ.set i (.d x)) A xs B δ') : ETo K (gCons (gName i) gs) δ (x :: A) xs B δ' := by
  intro He Ge H G σ vs us ws q ok r1 r2 h1 h2 h3 r3 hk Q k
  cases r1 with
  | cons rx r1 =>
    have ok1 := ok.pushD rx
    exact ⟨_, _, rfl, h He Ge H G _ _ us ws q (ok1.store hi) r1 r2 h1 h2 h3 r3 (own_keep hk rfl) Q k⟩
end
section
variable {Hy : PySem.W.Frag → Prop}
variable (Hy) in
structure SAo where
  t : PySem.W.Frag → WX → TA
  f : List S → Option (List D × List D × List D)
  ok : ∀ K, Hy K → ∀ W δ A xs B, f δ = some (A, xs, B) → EAO K (t K W) δ A xs B
def SAo.cons (e : SE Hy) (r : SAo Hy) : SAo Hy where
  t K W := tCons (e.t K W) (r.t K W)
  f δ := match e.fd δ, r.f δ with | .ok x, some (A, xs, B) => some (x :: A, xs, B) | _, _ => none
  ok K hk W δ A xs B h := by
    cases h1 : e.fd δ with
    | ok s =>
      cases h2 : r.f δ with
      | some z =>
        obtain ⟨A', xs', B'⟩ := z
        simp only [h1, h2] at h
        cases h
        exact eao_cons (e.okD hk h1) (r.ok K hk W δ _ _ _ h2)
      | none => simp only [h1, h2] at h; cases h
    | no => simp only [h1] at h; cases h
    | ex c fs => simp only [h1] at h; cases h
variable (Hy) in
structure SGo where
  t : PySem.W.Frag → WX → TGs
  f : List S → List D → List D → List D → Option (List S)
  ok : ∀ K, Hy K → ∀ W δ A xs B δ', f δ A xs B = some δ' → ETo K (t K W) δ A xs B δ'
def SGo.cons (i : Nat) (r : SGo Hy) : SGo Hy where
  t K W := gCons (gName i) (r.t K W)
  f δ A xs B := match A with | x :: A => (if i < δ.length then r.f (δ.set i (.d x)) A xs B else none) | [] => none
  ok K hk W δ A xs B δ' h := by
    cases A with
    | nil => cases h
    | cons a A =>
      by_cases z : i < δ.length
      · simp only [if_pos z] at h
        exact eto_cons z (r.ok K hk W _ _ _ _ _ h)
      · simp only [if_neg z] at h; cases h
variable {δ : List S}
@[simp] theorem SAo.cons_f (e : SE Hy) (r : SAo Hy) : (SAo.cons e r).f δ = match e.fd δ, r.f δ with | .ok x, some (A, xs, B) => some (x :: A, xs, B) | _, _ => none := (rfl)
@[simp] theorem SGo.cons_f (i : Nat) (r : SGo Hy) {x : D} {A xs B : List D} : (SGo.cons i r).f δ (x :: A) xs B = if i < δ.length then r.f (δ.set i (.d x)) A xs B else none := (rfl)
@[simp] theorem retS_ot' {A xs B : List D} : retS (.ot A xs B) = .no := (rfl)
end
end Far
namespace Far
open PySem L2
section
variable {K : PySem.W.Frag} {δ : List S} {te : TE} {x : D} {xs : List D} {i j : Nat} {m n : Int} {W : WX} {N B Ct : List S → Prop} {Rt : S → List S → Prop} {Xc : List S → Addr → List (Str × D) → Prop}
end
section
variable {K : PySem.W.Frag} {δ : List S} {xs : List D} {i : Nat}
end
section
variable {Hy : PySem.W.Frag → Prop}
def dv : List S → Nat → Option D
  | .d x :: _, 0 => some x
  | _ :: l, i + 1 => dv l i
  | _, _ => none
@[simp] theorem dv_0 {x : D} {l : List S} : dv (.d x :: l) 0 = some x := (rfl)
@[simp] theorem dv_s {s : S} {l : List S} {i : Nat} : dv (s :: l) (i + 1) = dv l i := by cases s <;> rfl
end
end Far
namespace Far
open PySem PySem.Spec PyProof.Rows L2
/-- from H to H3 a lambda's code object, at c, is found in the table at P, or laid and put there -/
def Made (P : Addr) (q : Str) (ps : Array Value) (H H3 : Hp) (c : Addr) : Prop :=
  (H3 = H ∧ ∃ at_, codeAmong at_ ps.toList = some (.ref c)) ∨
    ∃ l k : Int, H c = none ∧ H3 = upd (upd H P (.tbl (ps ++ #[rawInt l, rawInt k, .ref c]))) c (LamX.CodeO c q)
section
variable {X : Cx} {pins : List (Addr × Obj)} {σ : L2.St} {H : Hp} {s : Shared}
end
section
variable {P : Program} {w : World} {K : PySem.W.Frag} {mg : Str → Option Value} {base : Heap} {k : Nat}
/-- what a base that holds a lambda is good for -/
structure HeldB (P : Program) (w : World) (K : PySem.W.Frag) (mg : Str → Option Value) (base : Heap) (k : Nat) (f : Addr) (sp : Sp) : Prop where
  ex : ∃ (fd : FuncData) (ps : List Str) (o : Obj), base.get? f = some o ∧ o.data = .func fd ∧ FnOk P w K mg base CX0 k f fd ps sp ∧ ∀ (s : Shared) (us : List Value), us.length = ps.length → BindsTo s fd ⟨us, []⟩ (ps.zip us)
end
section
variable {X : Cx} {pins : List (Addr × Obj)} {σ : L2.St} {H : Hp} {s : Shared}
end
section
variable {X : Cx} {CX : CXT} {k : Nat} {g c P : Addr} {fdg : FuncData} {psg : List Str} {sp : Addr → Addr → List V → Sp} {Ec : L2.St → XK} {x a : Str} {cn : List Str} {ci : List Nat} {p lp pos : Pos} {e1 e2 : Expr} {t1 t2 : TE} {params : Arguments} {body : Expr} {scope : Scope}
end
section
variable {X : Cx} {k i : Nat} {x : Str} {p pos : Pos} {e : Expr} {es : List Expr} {t : TA}
end
end Far
namespace Far
open PySem L2
/-- a lambda that one was handed: where it lies, its code object, what it captured, what it tells -/
structure LamI where
  f : Addr
  c : Addr
  q : Str
  cvs : List V
  caps : List D
  F : List D → M S
abbrev LamI.d (L : LamI) : D := .lam L.f L.c L.q L.cvs L.caps
section
variable {K : PySem.W.Frag} {δ : List S}
end
section
variable {Hy : PySem.W.Frag → Prop}
end
theorem among_raw {at_ : Pos} {a b : Int} {c cv : Value} {l : List Value} (h : TriplesOk l) (e : codeAmong at_ (l ++ [rawInt a, rawInt b, c]) = some cv) : codeAmong at_ l = some cv ∨ cv = c := by
  fun_induction TriplesOk l with
  | case3 l n1 n2 => cases h
  | case1 =>
    right
    rw [List.nil_append] at e
    unfold rawInt codeAmong at e
    split at e
    · exact (Option.some.inj e).symm
    · unfold codeAmong at e; cases e
  | case2 i t j u x r ih =>
    rw [List.cons_append, List.cons_append, List.cons_append] at e
    unfold codeAmong at e ⊢
    split at e
    · rename_i z; rw [if_pos z]; exact .inl e
    · rename_i z; rw [if_neg z]; exact ih h e
section
variable {K : PySem.W.Frag} {He Ge H G : Hp} {σ : L2.St} {δ : List S}
theorem Ex.tabGrow {H : Hp} {P : Addr} {ps ps2 : Array Value} (h : H P = some (.tbl ps)) : Ex H (upd H P (.tbl ps2)) := ⟨fun a o e n => by
  rw [upd_ne (fun z => by rw [z, h] at e; cases e; cases n)]; exact e, fun a p e => by
  by_cases z : a = P
  · subst z; exact ⟨ps2, upd_same⟩
  · exact ⟨p, by rw [upd_ne z]; exact e⟩⟩
theorem OKG.made {P c : Addr} {q : Str} {ps : Array Value} {H3 : Hp} (ok : OKG K He Ge H G σ δ) (hm : (P, q) ∈ tabsK K) (hu : ∀ p ∈ tabsK K, p.1 = P → p.2 = q) (hP : H P = some (.tbl ps)) (m : Made P q ps H H3 c) :
    ∃ G3, OKG K He Ge H3 G3 σ δ ∧ Ex G G3 ∧ G3 c = some (LamX.CodeO c q) := by
  rcases m with ⟨rfl, at_, ha⟩ | ⟨l, k, hc, rfl⟩
  · obtain ⟨ps2, h1, _, h3⟩ := ok.nc.tb _ hm
    rw [show H3 (P, q).1 = H3 P from rfl, hP] at h1
    cases h1
    obtain ⟨b, e, g⟩ := h3 at_ _ ha
    cases e
    exact ⟨G, ok, .refl G, g⟩
  · have gc : G c = none := ok.gh.none hc
    have nP : P ≠ c := ne_of_none hP hc
    have n2 : upd H P (.tbl (ps ++ #[rawInt l, rawInt k, .ref c])) c = none := by rw [upd_ne (Ne.symm nP)]; exact hc
    have e1 := Ex.tabGrow (ps2 := ps ++ #[rawInt l, rawInt k, .ref c]) hP
    refine ⟨upd G c (LamX.CodeO c q), ok.grow (e1.trans (.new n2)) (.new gc) (ok.gh.trans e1).both ⟨fun b b1 b2 => ?_, ok.nc.tb, fun p hp => ?_⟩, .new gc, upd_same⟩
    · rw [upd_ne (fun z => b1 (by rw [z]; exact hc))]; exact b2
    · obtain ⟨ps2, h1, h2, h3⟩ := ok.nc.tb p hp
      have np : p.1 ≠ c := ne_of_none h1 hc
      by_cases z : p.1 = P
      · have eq := hu p hp z
        rw [z, hP] at h1
        cases h1
        refine ⟨ps ++ #[rawInt l, rawInt k, .ref c], by rw [upd_ne np, z, upd_same], ?_, fun at_ cv ha => ?_⟩
        · rw [show (ps ++ #[rawInt l, rawInt k, .ref c]).toList = ps.toList ++ [rawInt l, rawInt k, .ref c] by simp]
          exact PySem.TriplesOk_snoc _ _ _ _ h2
        · rw [show (ps ++ #[rawInt l, rawInt k, .ref c]).toList = ps.toList ++ [rawInt l, rawInt k, .ref c] by simp] at ha
          rcases among_raw h2 ha with w | w
          · obtain ⟨b, e3, g⟩ := h3 at_ cv w
            exact ⟨b, e3, by rw [upd_ne (ne_of_none g gc)]; exact g⟩
          · exact ⟨c, w, by rw [upd_same, eq]⟩
      · refine ⟨ps2, by rw [upd_ne np, upd_ne z]; exact h1, h2, fun at_ cv ha => ?_⟩
        obtain ⟨b, e3, g⟩ := h3 at_ cv ha
        exact ⟨b, e3, by rw [upd_ne (ne_of_none g gc)]; exact g⟩
end
section
variable {K : PySem.W.Frag} {δ : List S} {t1 t2 : TE} {x1 x2 : D} {s : S} {W : WX} {c : Addr} {cf : List (Str × D)}
end
section
variable {Hy : PySem.W.Frag → Prop}
end
end Far
namespace Far
open PySem PySem.Spec PyProof.Rows L2
section
variable {P : Program} {w : World} {K : PySem.W.Frag} {mg : Str → Option Value} {base : Heap}
theorem HeldB.mono {j k : Nat} {f : Addr} {sp : Sp} (h : HeldB P w K mg base j f sp) (l : j ≤ k) : HeldB P w K mg base k f sp :=
  ⟨let ⟨fd, ps, o, h1, h2, h3, h4⟩ := h.ex; ⟨fd, ps, o, h1, h2, h3.mono l, h4⟩⟩
end
end Far
namespace Far
open PySem L2
def keyO : D → Option KO
  | .non => some none | .int i => some (some i) | _ => none
def dKO (o : KO) : D := match o with | none => .non | some i => .int i
section
variable {K : PySem.W.Frag} {H G : Hp} {δ : List S}
theorem keyO_rp {x : D} {v : V} {k : KO} (h : keyO x = some k) (r : Rp K G x v) : v = vO k := by
  cases r <;> simp only [keyO] at h <;> (first | (cases h; rfl) | (cases h; done))
theorem rp_vO (k : KO) : Rp K G (dKO k) (vO k) := by
  cases k with
  | none => exact .non
  | some i => exact .int
variable {te tk tv td : TE} {x y : D} {k : KO} {kvs : List (KO × KO)}
/-- the pairs of a dict written out -/
def EPO (K : PySem.W.Frag) (trs : List (TE × TE)) (δ : List S) (kvs : List (KO × KO)) : Prop := ∀ (He Ge H : Hp) (τo : St) (τs : List S) (σ : St), τo.length = τs.length → OK K He Ge H (τo ++ σ) (τs ++ δ) →
  ∀ Q : List (V × V) → Hp → Prop, (∀ H' G', OKG K He Ge H' G' (τo ++ σ) (τs ++ δ) → Q (kvs.map fun kv => (vO kv.1, vO kv.2)) H') → tPairs trs σ H Q
theorem epo_nil : EPO K [] δ [] := fun He Ge H τo τs σ hl ⟨G, ok⟩ Q q => q H G ok
theorem epo_cons {trs : List (TE × TE)} {u : KO} (h1 : EV K tk δ (.d x)) (hk : keyO x = some k) (h2 : EV K tv δ (.d y)) (hu : keyO y = some u) (h3 : EPO K trs δ kvs) : EPO K ((tk, tv) :: trs) δ ((k, u) :: kvs) := by
  intro He Ge H τo τs σ hl ok Q q
  show tk σ H fun x4 H1 => tv σ H1 fun y4 H2 => tPairs trs σ H2 fun ps H3 => Q ((x4, y4) :: ps) H3
  refine h1 He Ge H τo τs σ hl ok _ fun v H1 ok1 => ?_
  refine h2 He Ge H1 (some v :: τo) (.d x :: τs) σ (by simp [hl]) ok1 _ fun w H2 ok2 => ?_
  refine h3 He Ge H2 (some w :: some v :: τo) (.d y :: .d x :: τs) σ (by simp [hl]) ok2 _ fun H3 G ok3 => ?_
  obtain ⟨_, e1, r1⟩ := ok3.top
  obtain ⟨_, e2, r2⟩ := ok3.pop.top
  cases e1; cases e2
  rw [keyO_rp hu r1, keyO_rp hk r2]
  exact q H3 G ok3.pop.pop
variable {W : WX} {N B Ct : List S → Prop} {Rt : S → List S → Prop} {Xc : List S → Addr → List (Str × D) → Prop}
end
section
variable {Hy : PySem.W.Frag → Prop}
/-- slot i such a dict of one's own -/
def okO : List S → Nat → M (List (KO × KO))
  | .oko kvs :: _, 0 => .ok kvs
  | _ :: l, i + 1 => okO l i
  | _, _ => .no
@[simp] theorem okO_0 {l : List S} {kvs : List (KO × KO)} : okO (.oko kvs :: l) 0 = .ok kvs := (rfl)
theorem okO_s {l : List S} {s : S} {i : Nat} : okO (s :: l) (i + 1) = okO l i := by cases s <;> rfl
@[simp] theorem okO_s1 {s : S} {l : List S} {i : Nat} : okO (s :: l) (i + 1) = okO l i := okO_s
structure SPo (Hy : PySem.W.Frag → Prop) where
  t : PySem.W.Frag → WX → List (TE × TE)
  f : List S → M (List (KO × KO))
  ok : ∀ K, Hy K → ∀ W δ kvs, f δ = .ok kvs → EPO K (t K W) δ kvs
def SPo.nil : SPo Hy := ⟨fun _ _ => [], fun _ => .ok [], fun K hk W δ kvs h => by cases h; exact epo_nil⟩
def SPo.cons (a b : SE Hy) (r : SPo Hy) : SPo Hy where
  t K W := (a.t K W, b.t K W) :: r.t K W
  f δ := (a.fd δ).bin fun x => (M.of (keyO x)).bin fun k => (b.fd δ).bin fun y => (M.of (keyO y)).bin fun u => (r.f δ).bin fun l => .ok ((k, u) :: l)
  ok K hk W δ kvs h := by
    cases h1 : a.fd δ with
    | ok x =>
      cases h2 : keyO x with
      | some k =>
        cases h3 : b.fd δ with
        | ok y =>
          cases h5 : keyO y with
          | some u =>
            cases h4 : r.f δ with
            | ok l =>
              simp only [h1, M.ok_bin, h2, M.of_some, h3, h5, h4] at h
              cases h
              exact epo_cons (a.okD hk h1) h2 (b.okD hk h3) h5 (r.ok K hk W δ l h4)
            | _ => simp only [h1, M.ok_bin, h2, M.of_some, h3, h5, h4] at h; cases h
          | none => simp only [h1, M.ok_bin, h2, M.of_some, h3, h5] at h; cases h
        | _ => simp only [h1, M.ok_bin, h2, M.of_some, h3] at h; cases h
      | none => simp only [h1, M.ok_bin, h2] at h; cases h
    | _ => simp only [h1] at h; cases h
variable {δ : List S}
@[simp] theorem SPo.nil_f : (SPo.nil : SPo Hy).f δ = .ok [] := (rfl)
@[simp] theorem SPo.cons_f (a b : SE Hy) (r : SPo Hy) : (SPo.cons a b r).f δ = (a.fd δ).bin fun x => (M.of (keyO x)).bin fun k => (b.fd δ).bin fun y => (M.of (keyO y)).bin fun u => (r.f δ).bin fun l => .ok ((k, u) :: l) := (rfl)
@[simp] theorem keyO_non : keyO .non = some none := (rfl)
@[simp] theorem keyO_int {i : Int} : keyO (.int i) = some (some i) := (rfl)
@[simp] theorem toD_okoS {kvs : List (KO × KO)} : toD (.oko kvs) = .ok (.dO kvs) := (rfl)
end
end Far
namespace Far
open PySem L2 PySem.Spec PyProof.Rows
section
variable {X : Cx}
end
section
variable {Hy : PySem.W.Frag → Prop}
end
section
end
end Far
namespace Far
open PySem L2 PySem.Spec PyProof.Rows
section
variable {Hy : PySem.W.Frag → Prop} {δ : List S}
end
end Far
namespace PySem
open Sem (wp)
open AutoSeq1 (wpAny_loadPart')
section
variable {prog : Program} {w : World} {A : Around} {E : Value → Shared → Prop} {s : Shared}
end
end PySem
namespace Far
open PySem L2 PySem.Spec PyProof.Rows
section
variable {K : PySem.W.Frag} {δ : List S}
end
section
variable {Hy : PySem.W.Frag → Prop}
end
end Far
namespace Far
open PySem L2
/-- what may leave an expression to which objects of the classes Cs are lent; lists, where none of one's own is lent -/
def rfo (Cs : List Addr) (ll : Bool) : D → Bool
  | .non => true | .bl _ => true | .int _ => true | .str _ => true | .ty _ => true | .cls _ => true
  | .tup xs => rfoL xs | .lst xs => ll && rfoL xs | .ins C fs => !(Cs.contains C) && rfoF fs
  | .dT es => rfoT es
  | _ => false
where
  rfoL : List D → Bool
    | [] => true
    | x :: r => rfo Cs ll x && rfoL r
  rfoF : List (Str × D) → Bool
    | [] => true
    | (_, x) :: r => rfo Cs ll x && rfoF r
  rfoT : List (List KO × D) → Bool
    | [] => true
    | (_, x) :: r => rfo Cs ll x && rfoT r
/-- no dict that may be lent -/
structure Nd (a : Addr) (o : HO) : Prop where
  k : ∀ us, o ≠ .dK us
  t : ∀ og, (∃ h, TP a og h) → o ≠ DT a og
theorem nd_code {c : Addr} {q : Str} : Nd c (LamX.CodeO c q) := ⟨fun us z => (by cases z), fun og ⟨h, t⟩ z => by
  have e : (fun h : Heap => ∃ (oc : Obj) (vs : Array Value) (t : Tok), h.get? c = some oc ∧ oc.data = .fields vs ∧ vs[1]? = some (.str q t)) = TP c og := HO.ext.inj z
  have t2 := t
  rw [← e] at t2
  obtain ⟨oc, vs, _, h1, h2, _⟩ := t2
  obtain ⟨k1, _, _, _, _, es, ep, _, k2, _⟩ := t
  rw [h1] at k1; cases k1
  rw [h2] at k2; cases k2⟩
section
variable {Cs : List Addr} {ll : Bool}
theorem rfoL_all : ∀ xs : List D, rfo.rfoL Cs ll xs = xs.all (rfo Cs ll)
  | [] => by simp [rfo.rfoL]
  | x :: r => by rw [rfo.rfoL, List.all_cons, rfoL_all r]
theorem rfoF_all : ∀ fs : List (Str × D), rfo.rfoF Cs ll fs = fs.all fun p => rfo Cs ll p.2
  | [] => by simp [rfo.rfoF]
  | (f, x) :: r => by rw [rfo.rfoF, List.all_cons, rfoF_all r]
variable {K : PySem.W.Frag} {G G2 : Hp}
mutual
theorem Rp.trimO (hG : ∀ a o, G a = some o → ((∃ us, o = .lst us) → ll = true) → Nd a o → (∀ C dx gs, C ∈ Cs → o ≠ .ins C dx gs) → ntb o = true → G2 a = some o) : ∀ {x : D} {v : V}, rfo Cs ll x = true → Rp K G x v → Rp K G2 x v
  | _, _, _, .non => .non
  | _, _, _, .bl => .bl
  | _, _, _, .int => .int
  | _, _, _, .str => .str
  | _, _, _, .ty => .ty
  | _, _, _, .cls => .cls
  | _, _, l, .tup h r => .tup (h.imp (fun ⟨o, h1, h2⟩ => ⟨o, hG _ _ h1 (fun ⟨us, z⟩ => by cases z) ⟨fun us z => (by cases z), fun og _ z => (by cases z)⟩ (fun _ _ _ _ z => by cases z) rfl, h2⟩) id) (RpL.trimO hG (by simpa [rfo] using l) r)
  | _, _, l, .utp h r => by simp [rfo] at l
  | _, _, l, .lst h r => by
    rw [rfo, Bool.and_eq_true] at l
    exact .lst (hG _ _ h (fun _ => l.1) ⟨fun us z => (by cases z), fun og _ z => (by cases z)⟩ (fun _ _ _ _ z => by cases z) rfl) (RpL.trimO hG l.2 r)
  | _, _, l, .scr h r => by simp [rfo] at l
  | _, _, l, .ins h r => by
    rw [rfo, Bool.and_eq_true] at l
    refine .ins (hG _ _ h (fun ⟨us, z⟩ => by cases z) ⟨fun us z => (by cases z), fun og _ z => (by cases z)⟩ (fun C dx gs hC z => ?_) rfl) (RpF.trimO hG l.2 r)
    cases z
    have := l.1
    simp at this
    exact this hC
  | _, _, l, .dK h r => by simp [rfo] at l
  | _, _, l, .dP h r => by simp [rfo] at l
  | _, _, l, .dO h => by simp [rfo] at l
  | _, _, l, .dT h r => by
    rw [rfo] at l
    exact .dT (hG _ _ h (fun ⟨us, z⟩ => by cases z) ⟨fun us z => (by cases z), fun og _ z => (by cases z)⟩ (fun _ _ _ _ z => by cases z) rfl) (RpT.trimO hG l r)
  | _, _, l, .dU h r => by simp [rfo] at l
  | _, _, l, .exc0 h => by simp [rfo] at l
  | _, _, l, .exc1 h h2 r n => by simp [rfo] at l
  | _, _, l, .exo h => by simp [rfo] at l
  | _, _, l, .lam h r => by simp [rfo] at l
theorem RpL.trimO (hG : ∀ a o, G a = some o → ((∃ us, o = .lst us) → ll = true) → Nd a o → (∀ C dx gs, C ∈ Cs → o ≠ .ins C dx gs) → ntb o = true → G2 a = some o) : ∀ {xs : List D} {vs : List V}, rfo.rfoL Cs ll xs = true → RpL K G xs vs → RpL K G2 xs vs
  | _, _, _, .nil => .nil
  | _, _, l, .cons h r => by
    rw [rfo.rfoL, Bool.and_eq_true] at l
    exact .cons (Rp.trimO hG l.1 h) (RpL.trimO hG l.2 r)
theorem RpF.trimO (hG : ∀ a o, G a = some o → ((∃ us, o = .lst us) → ll = true) → Nd a o → (∀ C dx gs, C ∈ Cs → o ≠ .ins C dx gs) → ntb o = true → G2 a = some o) : ∀ {xs : List (Str × D)} {vs : List (Str × V)}, rfo.rfoF Cs ll xs = true → RpF K G xs vs → RpF K G2 xs vs
  | _, _, _, .nil => .nil
  | _, _, l, .cons h r => by
    rw [rfo.rfoF, Bool.and_eq_true] at l
    exact .cons (Rp.trimO hG l.1 h) (RpF.trimO hG l.2 r)
theorem RpT.trimO (hG : ∀ a o, G a = some o → ((∃ us, o = .lst us) → ll = true) → Nd a o → (∀ C dx gs, C ∈ Cs → o ≠ .ins C dx gs) → ntb o = true → G2 a = some o) : ∀ {xs : List (List KO × D)} {vs : List (List KO × Addr × V)}, rfo.rfoT Cs ll xs = true → RpT K G xs vs → RpT K G2 xs vs
  | _, _, _, .nil => .nil
  | _, _, l, .cons q h r => by
    rw [rfo.rfoT, Bool.and_eq_true] at l
    exact .cons (q.imp (fun ⟨o, h1, h2⟩ => ⟨o, hG _ _ h1 (fun ⟨us, z⟩ => by cases z) ⟨fun us z => (by cases z), fun og _ z => (by cases z)⟩ (fun _ _ _ _ z => by cases z) rfl, h2⟩) id) (Rp.trimO hG l.1 h) (RpT.trimO hG l.2 r)
end
end
def lendSO : S → S | .own xs => .d (.lst xs) | .okd xs => .d (.dK xs) | .oko _ => .un | .okt es => .d (.dU es) | .ob _ C fs => .d (.ins C fs) | s => s
/-- which slots may be lent so -/
def okl (Cs : List Addr) (ll : Bool) : S → Bool | .own _ => !ll | .ob _ C _ => Cs.contains C | _ => true
/-- what is lent -/
def lnt : S → Bool | .own _ => true | .okd _ => true | .okt _ => true | .ob _ _ _ => true | _ => false
/-- what is not lent, while others are -/
def wkS (s : S) : S := if owned s = true then .un else s
open Classical in
theorem lend_coreG {K : PySem.W.Frag} {He Ge H G : Hp} {σ : L2.St} {δ0 δ : List S} {Cs : List Addr} {ll : Bool} (ok : OKG K He Ge H G σ (δ0 ++ δ)) (hd : δ.all (okl Cs ll) = true) :
    ∃ Gp, (Ex G Gp ∧ ∀ b, He b ≠ none → Gp b = G b) ∧ OKG K H Gp H Gp σ (δ0.map wkS ++ δ.map lendSO) ∧ ∀ (σ2 : L2.St) (δ2 : List S) (H' G' : Hp), OKG K H Gp H' G' σ2 δ2 → ∃ G2, OKG K He Ge H' G2 σ (δ0 ++ δ) ∧ (∀ a o, G' a = some o → ((∃ us, o = .lst us) → ll = true) → Nd a o → (∀ C dx gs, C ∈ Cs → o ≠ .ins C dx gs) → ntb o = true → G2 a = some o) ∧ (∀ p, H p = none → G2 p = G' p) := by
  let L : Addr → Prop := fun a => ∃ (i : Nat) (s : S), δ[i]? = some s ∧ lnt s = true ∧ σ[δ0.length + i]? = some (some (V.ref a))
  let Gp : Hp := fun a => if L a then H a else G a
  have hdi : ∀ i s, δ[i]? = some s → okl Cs ll s = true := fun i s h => List.all_eq_true.mp hd s (List.mem_of_getElem? h)
  have hat : ∀ i s, δ[i]? = some s → (δ0 ++ δ)[δ0.length + i]? = some s := fun i s h => by rw [List.getElem?_append_right (Nat.le_add_right _ _), Nat.add_sub_cancel_left]; exact h
  have hL : ∀ a, L a → ∃ u, H a = some u ∧ G a = none ∧ ((∃ vs, u = .lst vs ∧ ll = false) ∨ (∃ vs, u = .dK vs) ∨ (∃ C dx gs, C ∈ Cs ∧ u = .ins C dx gs) ∨ ∃ og, u = DT a og ∧ ∃ h, TP a og h) := by
    rintro a ⟨i, s, h1, ho, h2⟩
    obtain ⟨o, e, k⟩ := ok.sl _ _ (hat i s h1)
    rw [e] at h2; cases h2
    have := hdi i _ h1
    cases s with
    | un => cases ho
    | ot _ _ _ => cases ho
    | d x => cases ho
    | own xs =>
      obtain ⟨p, vs, e3, k1, k2, k3, r⟩ := k
      cases e3
      exact ⟨_, k3, k2, .inl ⟨vs, rfl, by simpa [okl] using this⟩⟩
    | okd xs =>
      obtain ⟨p, vs, e3, k1, k2, k3, r⟩ := k
      cases e3
      exact ⟨_, k3, k2, .inr (.inl ⟨vs, rfl⟩)⟩
    | okt xs =>
      obtain ⟨p, vs, e3, k1, k2, k3, r⟩ := k
      cases e3
      exact ⟨_, k3, k2, .inr (.inr (.inr ⟨vs, rfl, r.s⟩))⟩
    | oko xs => cases ho
    | ob q C fs =>
      obtain ⟨a1, dx, gs, e3, hq, k1, k2, k3, k4, k5, k6, r⟩ := k
      cases e3
      exact ⟨_, k5, k2, .inr (.inr (.inl ⟨C, dx, gs, by simpa [okl] using this, rfl⟩))⟩
  have g1 : Ex G Gp := .of fun a o e => by
    by_cases z : L a
    · obtain ⟨_, _, h, _⟩ := hL a z; rw [h] at e; cases e
    · show (if L a then H a else G a) = _; rw [if_neg z]; exact e
  have g2 : Ex Gp H := ⟨fun a o e n => by
    have e : (if L a then H a else G a) = _ := e
    split at e
    · exact e
    · exact ok.gh.nt a o e n, fun a ps e => by
    have e : (if L a then H a else G a) = _ := e
    split at e
    · exact ⟨ps, e⟩
    · exact ok.gh.tb a ps e⟩
  have g3 : ∀ b, He b ≠ none → Gp b = G b := fun b hb => by
    show (if L b then H b else G b) = _
    rw [if_neg]
    rintro ⟨i, s, h1, ho, h2⟩
    obtain ⟨o, e, k⟩ := ok.sl _ _ (hat i s h1)
    rw [e] at h2; cases h2
    cases s with
    | un => cases ho
    | ot _ _ _ => cases ho
    | d x => cases ho
    | own xs => obtain ⟨p, vs, e3, k1, _⟩ := k; cases e3; exact hb k1
    | okd xs => obtain ⟨p, vs, e3, k1, _⟩ := k; cases e3; exact hb k1
    | okt xs => obtain ⟨p, vs, e3, k1, _⟩ := k; cases e3; exact hb k1
    | oko xs => cases ho
    | ob q C fs => obtain ⟨a1, dx, gs, e3, hq, k1, _⟩ := k; cases e3; exact hb k1
  refine ⟨Gp, ⟨g1, g3⟩, ⟨.refl _, g2, .refl _, ⟨fun _ _ z => z, ok.nc.tb.mono (fun _ _ e => e) g1, ok.nc.tb.mono (fun _ _ e => e) g1⟩, fun i s hi => ?_, fun i j s t p hij hi hj o1 => ?_⟩, fun σ2 δ2 H' G' ok' => ?_⟩
  · rcases Nat.lt_or_ge i δ0.length with q | q
    · rw [List.getElem?_append_left (by simpa using q), List.getElem?_map] at hi
      cases e0 : δ0[i]? with
      | none => rw [e0] at hi; cases hi
      | some s0 =>
        rw [e0] at hi
        cases hi
        obtain ⟨o, e, k⟩ := ok.sl i s0 (by rw [List.getElem?_append_left q]; exact e0)
        refine ⟨o, e, ?_⟩
        cases s0 with
        | d x => obtain ⟨v, e1, r⟩ := k; exact ⟨v, e1, r.mono g1⟩
        | _ => trivial
    · rw [List.getElem?_append_right (by simpa using q), List.length_map, List.getElem?_map] at hi
      cases e0 : δ[i - δ0.length]? with
      | none => rw [e0] at hi; cases hi
      | some s0 =>
        rw [e0] at hi
        cases hi
        have hi2 : δ0.length + (i - δ0.length) = i := by omega
        have h3 := hat _ _ e0
        rw [hi2] at h3
        obtain ⟨o, e, k⟩ := ok.sl i _ h3
        refine ⟨o, e, ?_⟩
        have hLo : ∀ p, lnt s0 = true → o = some (.ref p) → L p := fun p h1 h2 => ⟨i - δ0.length, s0, e0, h1, by rw [hi2, e, h2]⟩
        cases s0 with
        | un => trivial
        | ot _ _ _ => trivial
        | d x => obtain ⟨v, e1, r⟩ := k; exact ⟨v, e1, r.mono g1⟩
        | own xs =>
          obtain ⟨p, vs, rfl, k1, k2, k3, r⟩ := k
          exact ⟨_, rfl, .lst (show (if L p then H p else G p) = _ by rw [if_pos (hLo p rfl rfl)]; exact k3) (r.mono g1)⟩
        | okd xs =>
          obtain ⟨p, vs, rfl, k1, k2, k3, r⟩ := k
          exact ⟨_, rfl, .dK (show (if L p then H p else G p) = _ by rw [if_pos (hLo p rfl rfl)]; exact k3) (r.mono g1)⟩
        | okt xs =>
          obtain ⟨p, vs, rfl, k1, k2, k3, r⟩ := k
          exact ⟨_, rfl, .dU (show (if L p then H p else G p) = _ by rw [if_pos (hLo p rfl rfl)]; exact k3) (RpT.mono g1 r.r)⟩
        | oko xs => trivial
        | ob q C fs =>
          obtain ⟨p, dx, gs, rfl, hq, k1, k2, k3, k4, k5, k6, r⟩ := k
          exact ⟨_, rfl, .ins (show (if L p then H p else G p) = _ by rw [if_pos (hLo p rfl rfl)]; exact k5) (r.mono g1)⟩
  · exfalso
    have no : ∀ s ∈ δ0.map wkS ++ δ.map lendSO, owned s = false := fun s hs => by
      rcases List.mem_append.mp hs with z | z
      · obtain ⟨x, _, rfl⟩ := List.mem_map.mp z
        unfold wkS
        cases x <;> rfl
      · obtain ⟨x, _, rfl⟩ := List.mem_map.mp z
        cases x <;> rfl
    rw [no s (List.mem_of_getElem? hi)] at o1; cases o1
  · let G2 : Hp := fun a => if H a = none then G' a else G a
    have f1 : Ex G G2 := .of fun a o e => by
      show (if H a = none then G' a else G a) = _
      rw [if_neg (fun z => by rw [ok.gh.none z] at e; cases e)]; exact e
    have f2 : Ex G2 H' := ⟨fun a o e n => by
      have e : (if H a = none then G' a else G a) = _ := e
      split at e
      · exact ok'.gh.nt a o e n
      · exact (ok.gh.trans ok'.he).nt a o e n, fun a ps e => by
      have e : (if H a = none then G' a else G a) = _ := e
      split at e
      · exact ok'.gh.tb a ps e
      · exact (ok.gh.trans ok'.he).tb a ps e⟩
    have hG : ∀ a o, G' a = some o → ((∃ us, o = .lst us) → ll = true) → Nd a o → (∀ C dx gs, C ∈ Cs → o ≠ .ins C dx gs) → ntb o = true → G2 a = some o := fun a o e n n2 n3 n4 => by
      show (if H a = none then G' a else G a) = _
      by_cases z : H a = none
      · rw [if_pos z]; exact e
      · rw [if_neg z]
        cases e2 : Gp a with
        | none => rw [ok'.nc a z e2] at e; cases e
        | some u =>
          have nu : ntb u = true := by
            cases hu : ntb u with
            | true => rfl
            | false =>
              cases u with
              | tbl ps => obtain ⟨_, z⟩ := ok'.ge.tb a ps e2; rw [e] at z; cases z; cases n4
              | _ => cases hu
          have e3 := ok'.ge.nt a u e2 nu
          rw [e] at e3; cases e3
          have e2 : (if L a then H a else G a) = _ := e2
          split at e2
          · rename_i q
            obtain ⟨u2, h, _, hu⟩ := hL a q
            rw [h] at e2; cases e2
            rcases hu with ⟨vs, rfl, hl⟩ | ⟨vs, rfl⟩ | ⟨C, dx, gs, hC, rfl⟩ | ⟨og, rfl, hs⟩
            · rw [n ⟨vs, rfl⟩] at hl; cases hl
            · exact (n2.k vs rfl).elim
            · exact (n3 C dx gs hC rfl).elim
            · exact (n2.t og hs rfl).elim
          · exact e2
    refine ⟨G2, ⟨ok.ge.trans f1, f2, ok.he.trans ok'.he, ⟨fun b b1 b2 => ?_, ok.nc.t0, ok'.nc.tb.sub fun c q e => hG c _ e (fun ⟨us, z⟩ => by cases z) nd_code (fun _ _ _ _ z => by cases z) rfl⟩, fun i s hi => ?_, ok.ne⟩, hG, fun p hp => if_pos hp⟩
    · show (if H b = none then G' b else G b) = _
      rw [if_neg (fun q => b1 (ok.he.none q))]; exact ok.nc b b1 b2
    · obtain ⟨o, e, k⟩ := ok.sl i s hi
      refine ⟨o, e, ?_⟩
      refine k.mono f1 fun p u q1 q2 q3 q4 => ⟨ok'.he.nt p u q3 q4, ?_⟩
      show (if H p = none then G' p else G p) = _
      rw [if_neg (by rw [q3]; exact fun z => nomatch z)]; exact q2
theorem lend_core {K : PySem.W.Frag} {He Ge H G : Hp} {σ : L2.St} {δ0 δ : List S} {Cs : List Addr} {ll : Bool} (ok : OKG K He Ge H G σ (δ0 ++ δ)) (hd : δ.all (okl Cs ll) = true) :
    ∃ Gp, OKG K H Gp H Gp σ (δ0.map wkS ++ δ.map lendSO) ∧ ∀ (σ2 : L2.St) (δ2 : List S) (H' G' : Hp), OKG K H Gp H' G' σ2 δ2 → ∃ G2, OKG K He Ge H' G2 σ (δ0 ++ δ) ∧ (∀ a o, G' a = some o → ((∃ us, o = .lst us) → ll = true) → Nd a o → (∀ C dx gs, C ∈ Cs → o ≠ .ins C dx gs) → ntb o = true → G2 a = some o) ∧ (∀ p, H p = none → G2 p = G' p) := by
  obtain ⟨Gp, _, a, b⟩ := lend_coreG ok hd
  exact ⟨Gp, a, b⟩
/-- what may leave -/
def rfoS (Cs : List Addr) (ll : Bool) : S → Bool | .d x => rfo Cs ll x | .own xs => rfo.rfoL Cs ll xs | .un => true | _ => false
section
variable {K : PySem.W.Frag} {δ : List S} {te : TE} {tt : TT} {s : S} {b : Bool} {Cs : List Addr} {ll : Bool} {c : Addr} {cf : List (Str × D)} {E : L2.St → XK}
theorem ev_lendO (h : EV K te (δ.map lendSO) s) (hd : δ.all (okl Cs ll) = true) (ls : rfoS Cs ll s = true) : EV K te δ s := by
  intro He Ge H τo τs σ hl ⟨G, ok⟩ Q q
  obtain ⟨Gp, ok1, back⟩ := lend_core (Cs := Cs) (ll := ll) ok hd
  refine h H Gp H τo (τs.map wkS) σ (by simpa using hl) ⟨Gp, ok1⟩ Q fun v H' ⟨G', ok'⟩ => ?_
  obtain ⟨G2, ok2, hG, hN⟩ := back _ _ H' G' ok'.pop
  have t := ok'.top
  refine q v H' ⟨G2, ok2.push ?_ ?_⟩
  · cases s with
    | un => trivial
    | ot _ _ _ => trivial
    | d x => obtain ⟨w, e, r⟩ := t; exact ⟨w, e, r.trimO hG ls⟩
    | own xs =>
      obtain ⟨p, vs, e, k1, k2, k3, r⟩ := t
      exact ⟨p, vs, e, ok.he.none k1, by rw [hN p k1]; exact k2, k3, r.trimO hG ls⟩
    | okd xs => cases ls
    | okt xs => cases ls
    | oko xs => cases ls
    | ob a C fs => cases ls
  · intro o1 j t' p e hj o2 es
    obtain ⟨o, e', k⟩ := ok.sl j t' hj
    rw [es] at e'; cases e'
    have hp : H p ≠ none := by
      cases t' with
      | un => cases o2
      | ot _ _ _ => cases o2
      | d x => cases o2
      | own xs => obtain ⟨p', vs, e2, _, _, k3, _⟩ := k; cases e2; rw [k3]; exact fun z => nomatch z
      | okd xs => obtain ⟨p', vs, e2, _, _, k3, _⟩ := k; cases e2; rw [k3]; exact fun z => nomatch z
      | okt xs => obtain ⟨p', vs, e2, _, _, k3, _⟩ := k; cases e2; rw [k3]; exact fun z => nomatch z
      | oko xs => obtain ⟨p', vs, e2, _, _, k3⟩ := k; cases e2; rw [k3]; exact fun z => nomatch z
      | ob q C fs => obtain ⟨a, dx, gs, e2, _, _, _, _, _, k5, _⟩ := k; cases e2; rw [k5]; exact fun z => nomatch z
    cases s with
    | un => cases o1
    | ot _ _ _ => cases o1
    | d x => cases o1
    | own xs => obtain ⟨p', vs, e2, k1, _⟩ := t; rw [e] at e2; cases e2; exact hp k1
    | okd xs => cases ls
    | okt xs => cases ls
    | oko xs => cases ls
    | ob a C fs => cases ls
theorem eb_lendO (h : EB K tt (δ.map lendSO) b) (hd : δ.all (okl Cs ll) = true) : EB K tt δ b := by
  intro He Ge H τo τs σ hl ⟨G, ok⟩ Q q
  obtain ⟨Gp, ok1, back⟩ := lend_core (Cs := Cs) (ll := ll) ok hd
  refine h H Gp H τo (τs.map wkS) σ (by simpa using hl) ⟨Gp, ok1⟩ Q fun H' ⟨G', ok'⟩ => ?_
  obtain ⟨G2, ok2, _, _⟩ := back _ _ H' G' ok'
  exact q H' ⟨G2, ok2⟩
theorem ex_lendO (h : EX K E te (δ.map lendSO) c cf) (hd : δ.all (okl Cs ll) = true) (lc : rfo.rfoF Cs ll cf = true) : EX K E te δ c cf := by
  intro He Ge H τo τs σ hl ⟨G, ok⟩ k Q
  obtain ⟨Gp, ok1, back⟩ := lend_core (Cs := Cs) (ll := ll) ok hd
  refine h H Gp H τo (τs.map wkS) σ (by simpa using hl) ⟨Gp, ok1⟩ (fun cls d G' H' ok' x => ?_) Q
  obtain ⟨G2, ok2, hG, hN⟩ := back _ _ H' G' ok'
  obtain ⟨e1, e2⟩ := x
  refine k cls d G2 H' ok2 ⟨e1, ?_⟩
  rcases e2 with e2 | ⟨dd, gs, e2, e3, r, e4⟩
  · exact .inl e2
  · exact .inr ⟨dd, gs, e2, hG _ _ e3 (fun ⟨us, z⟩ => by cases z) ⟨fun us z => (by cases z), fun og _ z => (by cases z)⟩ (fun _ _ _ _ z => by cases z) rfl, r.trimO hG lc, e4⟩
end
end Far
namespace Far
open PySem L2
section
variable {K : PySem.W.Frag} {He Ge H G : Hp} {σ : L2.St} {δ : List S}
/-- what a method promises that may change its object -/
def spM (K : PySem.W.Frag) (C : Addr) (R : List (Str × D) → List D → Out → List (Str × D) → Prop) : Sp := fun vs H Q E => ∃ (G : Hp) (x dx : Addr) (us : List V) (fs : List (Str × D)) (xs : List D) (out : Out) (fs2 : List (Str × D)), vs = .ref x :: us ∧ H dx = some (.own x) ∧ OKG K (hid H x dx) G H G [some (.ref x)] [.ob (some x) C fs] ∧ RpL K G xs us ∧ R fs xs out fs2 ∧
  (∀ v s G' H', out = .ret s → OKG K (hid H x dx) G H' G' [some v, some (.ref x)] [s, .ob (some x) C fs2] → Q v H') ∧
  (∀ c cf cls d G' H', out = .exc c cf → OKG K (hid H x dx) G H' G' [] [] → XOk K G' H' c cf cls d → E cls d H')
def SDefM (K : PySem.W.Frag) (E : WX) (x C : Addr) (t : TS) (δ : List S) (out : Out) (fs2 : List (Str × D)) : Prop := SD K E t δ (fun δ' => δ'[0]? = some (.ob (some x) C fs2) ∧ out = .ret (.d .non)) (fun s δ' => δ'[0]? = some (.ob (some x) C fs2) ∧ out = .ret s) NoS NoS (fun _ c fs => out = .exc c fs)
def slotsM (n : Nat) (x C : Addr) (fs : List (Str × D)) (xs : List D) : List S := .ob (some x) C fs :: slots (n - 1) xs
theorem OKG.pick0 {i : Nat} {s : S} {o : Option V} (h : OKG K He Ge H G σ δ) (hi : δ[i]? = some s) (e : σ[i]? = some o) : OKG K He Ge H G [o] [s] := by
  refine ⟨h.ge, h.gh, h.he, h.nc, fun j t q => ?_, fun j k t u p hjk hj hk => ?_⟩
  · cases j with
    | zero =>
      simp at q; subst q
      obtain ⟨o', e', k⟩ := h.sl i s hi
      rw [e] at e'; cases e'
      exact ⟨o, rfl, k⟩
    | succ j => simp at q
  · cases j with
    | zero => cases k with
      | zero => exact (hjk rfl).elim
      | succ k => simp at hk
    | succ j => simp at hj
theorem OKG.pick1 {i : Nat} {s s0 : S} {o o0 : Option V} (h : OKG K He Ge H G (o0 :: σ) (s0 :: δ)) (hi : δ[i]? = some s) (e : σ[i]? = some o) : OKG K He Ge H G [o0, o] [s0, s] := by
  have h1 := h.pick0 (i := i + 1) (s := s) (o := o) (by simpa using hi) (by simpa using e)
  refine h1.push h.top fun ho j t p e1 hj ho2 e2 => ?_
  cases j with
  | zero =>
    simp at hj e2; subst hj
    exact h.ne 0 (i + 1) s0 s p (by omega) rfl (by simpa using hi) ho ho2 (by rw [e1]; rfl) (by rw [← e2]; simpa using e)
  | succ j => simp at hj
theorem OKG.nil (h : OKG K He Ge H G σ δ) : OKG K He Ge H G [] [] := ⟨h.ge, h.gh, h.he, h.nc, fun j t q => by simp at q, fun j k t u p _ hj => by simp at hj⟩
theorem hid_eq {H : Hp} {x dx b : Addr} (h1 : b ≠ x) (h2 : b ≠ dx) : hid H x dx b = H b := by unfold hid; rw [if_neg (by rintro (z | z) <;> contradiction)]
theorem hid_tab2 {K : PySem.W.Frag} {H G : Hp} {x dx : Addr} (h : TabOk K H G) (n1 : ∀ ps, H x ≠ some (.tbl ps)) (n2 : ∀ ps, H dx ≠ some (.tbl ps)) : TabOk K (hid H x dx) G := h.mono (fun P ps e => by
  rw [hid_eq (fun z => n1 ps (by rw [← z]; exact e)) (fun z => n2 ps (by rw [← z]; exact e))]; exact e) (.refl G)
theorem hid_put {A H : Hp} {x dx : Addr} (e : Ex A H) (n1 : A x = none) (n2 : A dx = none) : Ex A (hid H x dx) := ⟨fun a o h k => by
  rw [hid_eq (ne_of_none h n1) (ne_of_none h n2)]; exact e.nt a o h k, fun a ps h => by
  rw [hid_eq (ne_of_none h n1) (ne_of_none h n2)]; exact e.tb a ps h⟩
theorem hid_x {H : Hp} {x dx : Addr} : hid H x dx x = none := by unfold hid; simp
theorem hid_d {H : Hp} {x dx : Addr} : hid H x dx dx = none := by unfold hid; simp
theorem meth_run {C : Addr} {R : List (Str × D) → List D → Out → List (Str × D) → Prop} {N : List Str} {vs : List V} {H : Hp} {Q : VK} {E : XK} {t : TS} (hN : 0 < N.length) (h : spM K C R vs H Q E) (k : ∀ x fs xs out fs2, R fs xs out fs2 → SDefM K (fun cls d _ H => E cls d H) x C t (slotsM N.length x C fs xs) out fs2) : t { nx := fun _ H' => Q .non H', rt := Q } (L2.start N vs) H := by
  obtain ⟨G, x, dx, us, fs, xs, out, fs2, rfl, hdx, ok0, r, hr, q1, q2⟩ := h
  have est : L2.start N (.ref x :: us) = some (.ref x) :: (us.map some ++ List.replicate (N.length - 1 - us.length) none) := by
    unfold L2.start
    rw [List.map_cons, List.cons_append, List.length_cons, Nat.sub_add_eq, Nat.sub_right_comm]
  rw [est]
  obtain ⟨o0, eo0, a, dx2, gs, e0, hq, h1, h2, h3, h4, h5, h6, rf⟩ := ok0.sl 0 _ rfl
  simp at eo0; subst eo0
  cases e0
  have ed : dx2 = dx := by
    by_cases z : dx2 = dx
    · exact z
    · by_cases z2 : dx2 = x
      · subst z2; rw [h5] at h6; cases h6
      · rw [hid_eq z2 z] at h3; rw [h3] at h6; cases h6
  subst ed
  have e : Ex G (hid H x dx2) := hid_put ok0.gh h2 h4
  have hs := ok_startH (n := N.length - 1) e hid_ex ok0.nc.t0 ok0.nc.tb r
  have ok : OKG K (hid H x dx2) G H G (some (.ref x) :: (us.map some ++ List.replicate (N.length - 1 - us.length) none)) (slotsM N.length x C fs xs) := by
    refine hs.push (s := .ob (some x) C fs) ⟨x, dx2, gs, rfl, hq, h1, h2, h3, h4, h5, h6, rf⟩ fun _ j s p _ hj ho _ => ?_
    have : ∀ s ∈ slots (N.length - 1) xs, owned s = false := fun s hs => by
      rcases List.mem_append.mp hs with z | z
      · obtain ⟨x, _, rfl⟩ := List.mem_map.mp z; rfl
      · rw [List.eq_of_mem_replicate z]; rfl
    rw [this s (List.mem_of_getElem? hj)] at ho; cases ho
  have at0 : ∀ {H' G' : Hp} {σ' : L2.St} {δ' : List S}, OKG K (hid H x dx2) G H' G' σ' δ' → δ'[0]? = some (.ob (some x) C fs2) → σ'[0]? = some (some (.ref x)) := fun {H' G' σ' δ'} ok' e0 => by
    obtain ⟨o, eo, a, _, _, rfl, hq, _⟩ := ok'.sl 0 _ e0
    cases hq x rfl; exact eo
  refine k x fs xs out fs2 hr (hid H x dx2) G H _ _ ⟨G, ok⟩ (fun δ' σ' H' ⟨G', ok'⟩ ⟨e0, eo⟩ => ?_) (fun v s σ' δ' H' ⟨G', ok', _⟩ ⟨e0, eo⟩ => ?_) (fun _ _ _ _ z => z.elim) (fun _ _ _ _ z => z.elim) fun c fs cls d G' σ' δ' H' ok x z => q2 c fs cls d G' H' z ok.nil x
  · exact q1 _ _ G' H' eo ((ok'.pick0 e0 (at0 ok' e0)).pushD .non)
  · exact q1 v s G' H' eo (ok'.pick1 e0 (at0 ok'.pop e0))
/-- the caller behind such a call -/
theorem OKG.others {G2 H' : Hp} {i : Nat} {q : Option Addr} {C x dx : Addr} {fs : List (Str × D)} (ok : OKG K He Ge H G σ δ) (hi : δ[i]? = some (.ob q C fs)) (hx : σ[i]? = some (some (.ref x))) (hdx : H dx = some (.own x)) (g : Ex G G2) (he : Ex (hid H x dx) H') (nc : Nc K (hid H x dx) G H' G2) :
    ∀ (j : Nat) (s : S), j ≠ i → δ[j]? = some s → ∃ o, σ[j]? = some o ∧ SlotOk K He G2 H' s o ∧ (owned s = true → ∀ p, o = some (.ref p) → hid H x dx p ≠ none) := by
  obtain ⟨o0, eo0, a, dx2, gs, e0, hq, h1, h2, h3, h4, h5, h6, rf⟩ := ok.sl i _ hi
  rw [hx] at eo0; cases eo0; cases e0
  intro j s hj hs
  obtain ⟨o, eo, k⟩ := ok.sl j s hs
  refine ⟨o, eo, ?_⟩
  have kp : ∀ p u, H p = some u → p ≠ x → p ≠ dx → G p = none → ntb u = true → H' p = some u ∧ G2 p = none ∧ hid H x dx p ≠ none := fun p u e n1 n2 hg n => by
    have : hid H x dx p = some u := by rw [hid_eq n1 n2]; exact e
    exact ⟨he.nt _ _ this n, nc p (by rw [this]; exact fun z => nomatch z) hg, by rw [this]; exact fun z => nomatch z⟩
  have nx : ∀ p, owned s = true → o = some (.ref p) → p ≠ x := fun p ho e z => by
    subst z
    exact ok.ne j i s _ p hj hs hi ho rfl (by rw [eo, e]) hx
  cases s with
  | un => exact ⟨trivial, fun z => nomatch z⟩
  | ot _ _ _ => exact ⟨trivial, fun z => nomatch z⟩
  | d y => obtain ⟨v, e1, r⟩ := k; exact ⟨⟨v, e1, r.mono g⟩, fun z => nomatch z⟩
  | own xs =>
    obtain ⟨p, vs, rfl, k1, k2, k3, r⟩ := k
    obtain ⟨u1, u2, u3⟩ := kp p _ k3 (nx p rfl rfl) (fun z => by subst z; rw [hdx] at k3; cases k3) k2 rfl
    exact ⟨⟨p, vs, rfl, k1, u2, u1, r.mono g⟩, fun _ p' e => by cases e; exact u3⟩
  | okd xs =>
    obtain ⟨p, vs, rfl, k1, k2, k3, r⟩ := k
    obtain ⟨u1, u2, u3⟩ := kp p _ k3 (nx p rfl rfl) (fun z => by subst z; rw [hdx] at k3; cases k3) k2 rfl
    exact ⟨⟨p, vs, rfl, k1, u2, u1, r.mono g⟩, fun _ p' e => by cases e; exact u3⟩
  | okt xs =>
    obtain ⟨p, vs, rfl, k1, k2, k3, r⟩ := k
    obtain ⟨u1, u2, u3⟩ := kp p _ k3 (nx p rfl rfl) (fun z => by subst z; rw [hdx] at k3; cases k3) k2 rfl
    exact ⟨⟨p, vs, rfl, k1, u2, u1, r.mono g⟩, fun _ p' e => by cases e; exact u3⟩
  | oko xs =>
    obtain ⟨p, vs, rfl, k1, k2, k3⟩ := k
    obtain ⟨u1, u2, u3⟩ := kp p _ k3 (nx p rfl rfl) (fun z => by subst z; rw [hdx] at k3; cases k3) k2 rfl
    exact ⟨⟨p, vs, rfl, k1, u2, u1⟩, fun _ p' e => by cases e; exact u3⟩
  | ob q2 C2 fs2 =>
    obtain ⟨p, dx3, gs2, rfl, kq, k1, k2, k3, k4, k5, k6, r⟩ := k
    have n1 := nx p rfl rfl
    obtain ⟨u1, u2, u3⟩ := kp p _ k5 n1 (fun z => by subst z; rw [hdx] at k5; cases k5) k2 rfl
    obtain ⟨w1, w2, w3⟩ := kp dx3 _ k6 (fun z => by subst z; rw [h5] at k6; cases k6) (fun z => by subst z; rw [hdx] at k6; cases k6; exact n1 rfl) k4 rfl
    exact ⟨⟨p, dx3, gs2, rfl, kq, k1, u2, k3, w2, u1, w1, r.mono g⟩, fun _ p' e => by cases e; exact u3⟩
theorem OKG.back {G2 H' : Hp} {i : Nat} {q : Option Addr} {C x dx : Addr} {fs fs2 : List (Str × D)} {s : S} {v : V} (ok : OKG K He Ge H G σ δ) (hi : δ[i]? = some (.ob q C fs)) (hx : σ[i]? = some (some (.ref x))) (hdx : H dx = some (.own x)) (hdn : He dx = none)
    (ok' : OKG K (hid H x dx) G H' G2 [some v, some (.ref x)] [s, .ob (some x) C fs2]) : OKG K He Ge H' G2 (some v :: σ) (s :: δ.set i (.ob q C fs2)) := by
  obtain ⟨o0, eo0, a, dx2, gs, e0, hq, h1, h2, h3, h4, h5, h6, rf⟩ := ok.sl i _ hi
  rw [hx] at eo0; cases eo0; cases e0
  have ot := ok.others hi hx hdx ok'.ge ok'.he ok'.nc
  have hlt : i < δ.length := (List.getElem?_eq_some_iff.mp hi).1
  have hh : ∀ b, He b ≠ none → hid H x dx b ≠ none := fun b hb => by
    have n1 : b ≠ x := fun z => by subst z; exact hb h1
    have n2 : b ≠ dx := fun z => by subst z; exact hb hdn
    rw [hid_eq n1 n2]
    intro z; exact hb (ok.he.none z)
  have hne : ∀ p, hid H x dx p = none → He p = none := fun p hp => by
    cases e : He p with
    | none => rfl
    | some u => exact (hh p (by rw [e]; exact fun z => nomatch z) hp).elim
  have he2 : Ex He H' := (hid_put ok.he h1 hdn).trans ok'.he
  have okb : OKG K He Ge H' G2 σ (δ.set i (.ob q C fs2)) := by
    refine ⟨ok.ge.trans ok'.ge, ok'.gh, he2, ⟨fun b b1 b2 => ok'.nc b (hh b b1) (ok.nc b b1 b2), ok.nc.t0, ok'.nc.tb⟩, fun j t hj => ?_, fun j k s' t p hjk hj hk o1 o2 e1 e2 => ?_⟩
    · by_cases z : i = j
      · subst z
        rw [List.getElem?_set_self hlt] at hj; cases hj
        obtain ⟨o1, eo1, a1, dx3, gs3, e1, kq, k1, k2, k3, k4, k5, k6, r⟩ := ok'.sl 1 _ rfl
        simp at eo1; subst eo1; cases e1
        exact ⟨_, hx, x, dx3, gs3, rfl, hq, h1, k2, hne _ k3, k4, k5, k6, r⟩
      · rw [List.getElem?_set_ne z] at hj
        obtain ⟨o, eo, k, _⟩ := ot j t (Ne.symm z) hj
        exact ⟨o, eo, k⟩
    · have un : ∀ (m : Nat) (s : S), (δ.set i (.ob q C fs2))[m]? = some s → owned s = true → ∃ s2, δ[m]? = some s2 ∧ owned s2 = true := fun m s q q2 => by
        by_cases z : i = m
        · subst z; exact ⟨_, hi, rfl⟩
        · rw [List.getElem?_set_ne z] at q; exact ⟨s, q, q2⟩
      obtain ⟨s2, q1, q2⟩ := un j _ hj o1
      obtain ⟨t2, q3, q4⟩ := un k _ hk o2
      exact ok.ne j k s2 t2 p hjk q1 q3 q2 q4 e1 e2
  refine okb.push ?_ fun ho j t p e hj ho2 e2 => ?_
  · have t := ok'.top
    cases s with
    | un => trivial
    | ot _ _ _ => trivial
    | d y => exact t
    | own xs => obtain ⟨p, vs, e, k1, k2⟩ := t; exact ⟨p, vs, e, hne _ k1, k2⟩
    | okd xs => obtain ⟨p, vs, e, k1, k2⟩ := t; exact ⟨p, vs, e, hne _ k1, k2⟩
    | okt xs => obtain ⟨p, vs, e, k1, k2⟩ := t; exact ⟨p, vs, e, hne _ k1, k2⟩
    | oko xs => obtain ⟨p, vs, e, k1, k2⟩ := t; exact ⟨p, vs, e, hne _ k1, k2⟩
    | ob q2 C2 fs3 => obtain ⟨p, dx3, gs2, e, kq, k1, k2, k3, k4⟩ := t; exact ⟨p, dx3, gs2, e, kq, hne _ k1, k2, hne _ k3, k4⟩
  · by_cases z : i = j
    · subst z
      rw [List.getElem?_set_self hlt] at hj; cases hj
      rw [hx] at e2; cases e2
      exact ok'.ne 0 1 s _ x (by decide) rfl rfl ho rfl (by rw [e]; rfl) rfl
    · rw [List.getElem?_set_ne z] at hj
      obtain ⟨o, eo, _, kn⟩ := ot j t (Ne.symm z) hj
      rw [e2] at eo; cases eo
      have hp := kn ho2 p rfl
      have tp := ok'.top
      cases s with
      | un => cases ho
      | ot _ _ _ => cases ho
      | d y => cases ho
      | own xs => obtain ⟨p', vs, e', k1, _⟩ := tp; rw [e] at e'; cases e'; exact hp k1
      | okd xs => obtain ⟨p', vs, e', k1, _⟩ := tp; rw [e] at e'; cases e'; exact hp k1
      | okt xs => obtain ⟨p', vs, e', k1, _⟩ := tp; rw [e] at e'; cases e'; exact hp k1
      | oko xs => obtain ⟨p', vs, e', k1, _⟩ := tp; rw [e] at e'; cases e'; exact hp k1
      | ob q2 C2 fs3 => obtain ⟨p', dx3, gs2, e', kq, k1, _⟩ := tp; rw [e] at e'; cases e'; exact hp k1
end
def EVX (K : PySem.W.Frag) (te : TE) (δ : List S) (s : S) (δ' : List S) : Prop := ∀ (He Ge H : Hp) (τo : L2.St) (τs : List S) (σ : L2.St), τo.length = τs.length → OK K He Ge H (τo ++ σ) (τs ++ δ) →
  ∀ Q : VK, (∀ v H', OK K He Ge H' (some v :: (τo ++ σ)) (s :: (τs ++ δ')) → Q v H') → te σ H Q
def EBX (K : PySem.W.Frag) (tt : TT) (δ : List S) (b : Bool) (δ' : List S) : Prop := ∀ (He Ge H : Hp) (τo : L2.St) (τs : List S) (σ : L2.St), τo.length = τs.length → OK K He Ge H (τo ++ σ) (τs ++ δ) →
  ∀ Q : Bool → Hp → Prop, (∀ H', OK K He Ge H' (τo ++ σ) (τs ++ δ') → Q b H') → tt σ H Q
def EAX (K : PySem.W.Frag) (ta : TA) (δ : List S) (xs : List D) (δ' : List S) : Prop := ∀ (He Ge H : Hp) (τo : L2.St) (τs : List S) (σ : L2.St), τo.length = τs.length → OK K He Ge H (τo ++ σ) (τs ++ δ) →
  ∀ Q : List V → Hp → Prop, (∀ vs H' G', OKG K He Ge H' G' (τo ++ σ) (τs ++ δ') → RpL K G' xs vs → Q vs H') → ta σ H Q
/-- .. and those that let out -/
def EXX (K : PySem.W.Frag) (E : L2.St → XK) (te : TE) (δ δ' : List S) (c : Addr) (cf : List (Str × D)) : Prop := ∀ (He Ge H : Hp) (τo : L2.St) (τs : List S) (σ : L2.St), τo.length = τs.length → OK K He Ge H (τo ++ σ) (τs ++ δ) →
  (∀ cls d G' H', OKG K He Ge H' G' (τo ++ σ) (τs ++ δ') → XOk K G' H' c cf cls d → E σ cls d H') → ∀ Q : VK, te σ H Q
def EXAX (K : PySem.W.Frag) (E : L2.St → XK) (ta : TA) (δ δ' : List S) (c : Addr) (cf : List (Str × D)) : Prop := ∀ (He Ge H : Hp) (τo : L2.St) (τs : List S) (σ : L2.St), τo.length = τs.length → OK K He Ge H (τo ++ σ) (τs ++ δ) →
  (∀ cls d G' H', OKG K He Ge H' G' (τo ++ σ) (τs ++ δ') → XOk K G' H' c cf cls d → E σ cls d H') → ∀ Q : List V → Hp → Prop, ta σ H Q
section
variable {K : PySem.W.Frag} {δ δ1 δ2 : List S} {te ta tb : TE} {tt tu : TT} {tr : TA} {x y z : D} {s : S} {xs : List D} {fs fs2 : List (Str × D)} {C : Addr} {E : L2.St → XK} {c : Addr} {cf : List (Str × D)} {W : WX}
theorem evx_of (h : EV K te δ s) : EVX K te δ s δ := h
theorem eax_of (h : EA K tr δ xs) : EAX K tr δ xs δ := h
theorem ebx_of {b : Bool} (h : EB K tt δ b) : EBX K tt δ b δ := h
theorem exx_of (h : EX K E te δ c cf) : EXX K E te δ δ c cf := h
theorem set_app {τs : List S} {i : Nat} {u : S} : (τs ++ δ).set (τs.length + i) u = τs ++ δ.set i u := by
  rw [List.set_append_right _ _ (Nat.le_add_right _ _), Nat.add_sub_cancel_left]
theorem own_dict {He Ge H G : Hp} {σ : L2.St} {i : Nat} {q : Option Addr} (ok : OKG K He Ge H G σ δ) (hi : δ[i]? = some (.ob q C fs)) : ∃ x dx gs, σ[i]? = some (some (.ref x)) ∧ H x = some (.ins C dx gs) ∧ H dx = some (.own x) ∧ He dx = none ∧ RpF K G fs gs ∧ OKG K (hid H x dx) G H G [some (.ref x)] [.ob (some x) C fs] := by
  obtain ⟨o, eo, x, dx, gs, rfl, hq, h1, h2, h3, h4, h5, h6, rf⟩ := ok.sl i _ hi
  refine ⟨x, dx, gs, eo, h5, h6, h3, rf, ⟨.refl _, ok.gh, hid_ex, ⟨fun _ _ z => z, hid_tab2 ok.nc.tb (fun ps z => by rw [h5] at z; cases z) (fun ps z => by rw [h6] at z; cases z), ok.nc.tb⟩, fun j t hj => ?_, fun j k t u p hjk hj hk => ?_⟩⟩
  · cases j with
    | zero =>
      simp at hj; subst hj
      exact ⟨_, rfl, x, dx, gs, rfl, fun _ z => Option.some.inj z, hid_x, h2, hid_d, h4, h5, h6, rf⟩
    | succ j => simp at hj
  · cases j with
    | zero => cases k with
      | zero => exact (hjk rfl).elim
      | succ k => simp at hk
    | succ j => simp at hj
theorem evx_meth {R : List (Str × D) → List D → Out → List (Str × D) → Prop} {i : Nat} {q : Option Addr} {m : Str} (hi : δ[i]? = some (.ob q C fs)) (hm : fs.lookup m = none) (h : EA K tr δ xs) (hr : R fs xs (.ret s) fs2) : EVX K (tMethS C m (spM K C R) E (tVar i) tr) δ s (δ.set i (.ob q C fs2)) := by
  intro He Ge H τo τs σ hl ⟨G, ok⟩ Q k
  have hat : (τs ++ δ)[τs.length + i]? = some (.ob q C fs) := by rw [List.getElem?_append_right (Nat.le_add_right _ _), Nat.add_sub_cancel_left]; exact hi
  have hσ : ∀ o, (τo ++ σ)[τs.length + i]? = some o → σ[i]? = some o := fun o e => by rw [List.getElem?_append_right (by omega), ← hl, Nat.add_sub_cancel_left] at e; exact e
  obtain ⟨x0, dx0, gs0, e0, e1, e2, e3, rf0, _⟩ := own_dict ok hat
  refine ⟨_, hσ _ e0, x0, dx0, gs0, rfl, e1, rf0.nolook hm, ?_⟩
  refine h He Ge H τo τs σ hl ⟨G, ok⟩ _ fun vs H1 G1 ok1 r1 => ?_
  obtain ⟨x, dx, gs, f0, f1, f2, f3, rf, okc⟩ := own_dict ok1 hat
  have : x0 = x := by
    have q1 := hσ _ e0
    have q2 := hσ _ f0
    rw [q1] at q2; cases q2; rfl
  subst this
  refine ⟨G1, x0, dx, vs, fs, xs, .ret s, fs2, rfl, f2, okc, r1, hr, fun v s' G' H' e ok' => ?_, fun c cf cls d G' H' e => nomatch e⟩
  cases e
  have := ok1.back hat f0 f2 f3 ok'
  rw [set_app] at this
  exact k v H' ⟨G', this⟩
/-- an object of one's own is made -/
theorem ev_makeO {R : List (Str × D) → List D → Out → List (Str × D) → Prop} (h : EA K tr δ xs) (hr : R [] xs (.ret (.d .non)) fs2) : EV K (tMakeS C (spM K C R) E tr) δ (.ob none C fs2) := by
  intro He Ge H τo τs σ hl ok Q q
  refine h He Ge H τo τs σ hl ok _ fun vs H1 G ok1 r1 => ?_
  intro x dx hx hdx ne
  have hh := hid_new (o1 := .own x) (o2 := .ins C dx []) hx hdx
  have e1 : upd (upd H1 dx (.own x)) x (.ins C dx []) x = some (.ins C dx []) := upd_same
  have e2 : upd (upd H1 dx (.own x)) x (.ins C dx []) dx = some (.own x) := by rw [upd_ne ne, upd_same]
  refine ⟨G, x, dx, vs, [], xs, _, fs2, rfl, e2, ⟨.refl _, ok1.gh.trans ((Ex.new hdx).trans (.new (by rw [upd_ne (Ne.symm ne)]; exact hx))), hid_ex, ⟨fun _ _ z => z, by rw [hh]; exact ok1.nc.tb, (ok1.nc.tb.new hdx (.refl G)).new (by rw [upd_ne (Ne.symm ne)]; exact hx) (.refl G)⟩, fun j t hj => ?_, fun j k t u p hjk hj hk => ?_⟩, r1, hr, fun v s G' H' e ok' => ?_, fun c fs cls d G' H' e => (nomatch e)⟩
  · cases j with
    | zero =>
      simp at hj; subst hj
      exact ⟨_, rfl, x, dx, [], rfl, fun _ z => Option.some.inj z, hid_x, ok1.gh.none hx, hid_d, ok1.gh.none hdx, e1, e2, .nil⟩
    | succ j => simp at hj
  · cases j with
    | zero => cases k with
      | zero => exact (hjk rfl).elim
      | succ k => simp at hk
    | succ j => simp at hj
  · cases e
    rw [hh] at ok'
    obtain ⟨v', e0, r0⟩ := ok'.top
    cases e0
    cases r0
    refine ⟨rfl, q _ H' ⟨G', ?_⟩⟩
    have okg := ok1.grow ok'.he ok'.ge ok'.gh ok'.nc
    obtain ⟨a, dx3, gs3, e1', kq, k1, k2, k3, k4, k5, k6, r⟩ := ok'.pop.top
    cases e1'
    refine okg.push (s := .ob none C fs2) ⟨x, dx3, gs3, rfl, (fun _ z => nomatch z), ok1.he.none hx, k2, ok1.he.none k3, k4, k5, k6, r⟩ fun _ j t p e hj ho eσ => ?_
    cases e
    obtain ⟨o, eo, k⟩ := ok1.sl j t hj
    rw [eσ] at eo; cases eo
    cases t with
    | un => cases ho
    | ot _ _ _ => cases ho
    | d y => cases ho
    | own ys => obtain ⟨p', vs', e, _, _, h3, _⟩ := k; cases e; rw [hx] at h3; cases h3
    | okd ys => obtain ⟨p', vs', e, _, _, h3, _⟩ := k; cases e; rw [hx] at h3; cases h3
    | okt ys => obtain ⟨p', vs', e, _, _, h3, _⟩ := k; cases e; rw [hx] at h3; cases h3
    | oko ys => obtain ⟨p', vs', e, _, _, h3⟩ := k; cases e; rw [hx] at h3; cases h3
    | ob q C fs => obtain ⟨a, dx, gs, e, _, _, _, _, _, h5, _⟩ := k; cases e; rw [hx] at h5; cases h5
end
end Far
namespace Far
open PySem L2
section
variable {K : PySem.W.Frag} {δ δ1 δ2 : List S} {te ta tb : TE} {tt tu : TT} {tr : TA} {x y z : D} {s : S} {xs : List D} {fs fs2 : List (Str × D)} {C : Addr} {E : L2.St → XK} {c : Addr} {cf : List (Str × D)} {W : WX} {b b2 : Bool}
theorem evx_toD (h : EVX K te δ s δ1) (e : toD s = .ok x) : EVX K te δ (.d x) δ1 := by
  intro He Ge H τo τs σ hl ok Q q
  refine h He Ge H τo τs σ hl ok _ fun v H' ok' => ?_
  cases s with
  | d y => cases e; exact q v H' ok'
  | own ys => cases e; obtain ⟨G', ok'⟩ := ok'; obtain ⟨G2, ok2⟩ := ok'.freeze; exact q v H' ⟨G2, ok2⟩
  | okd ys => cases e; obtain ⟨G', ok'⟩ := ok'; obtain ⟨G2, ok2⟩ := ok'.freezeK; exact q v H' ⟨G2, ok2⟩
  | okt ys => cases e
  | oko ys => cases e; obtain ⟨G', ok'⟩ := ok'; obtain ⟨G2, ok2⟩ := ok'.freezeO; exact q v H' ⟨G2, ok2⟩
  | _ => cases e
theorem eax_cons (ha : EVX K ta δ (.d x) δ1) (hr : EAX K tr δ1 xs δ2) : EAX K (tCons ta tr) δ (x :: xs) δ2 := by
  intro He Ge H τo τs σ hl ok Q q
  refine ha He Ge H τo τs σ hl ok _ fun v H1 ok1 => ?_
  refine hr He Ge H1 (some v :: τo) (.d x :: τs) σ (by simp [hl]) ok1 _ fun vs H2 G2 ok2 r2 => ?_
  obtain ⟨_, e1, r1⟩ := ok2.top
  cases e1
  exact q (v :: vs) H2 G2 ok2.pop (.cons r1 r2)
theorem evx_call {R : List D → Out → Prop} {E : XK} (h : EAX K tr δ xs δ1) (hr : R xs (.ret s)) : EVX K (tCall (spD K R) [] E tr) δ s δ1 := by
  intro He Ge H τo τs σ hl ok Q q
  refine h He Ge H τo τs σ hl ok _ fun vs H1 G1 ok1 r1 => ?_
  rw [List.append_nil]
  exact sp_ret ok1 r1 hr q
theorem evx_cb {r : List V → Hp → VK → Prop} (ha : EAX K tr δ xs δ1) (hr : RVN K r xs s) : EVX K (tCB r tr) δ s δ1 := by
  intro He Ge H τo τs σ hl ok Q q
  refine ha He Ge H τo τs σ hl ok _ fun vs H1 G1 ok1 r1 => ?_
  exact hr He Ge H1 G1 _ _ vs ok1 r1 Q q
theorem evx_op {r : R2} (ha : EVX K ta δ (.d x) δ1) (hb : EVX K tb δ1 (.d y) δ2) (hr : RV2 K r x y s) : EVX K (tOp r ta tb) δ s δ2 := by
  intro He Ge H τo τs σ hl ok Q q
  refine ha He Ge H τo τs σ hl ok _ fun v H1 ok1 => ?_
  refine hb He Ge H1 (some v :: τo) (.d x :: τs) σ (by simp [hl]) ok1 _ fun u H2 ok2 => ?_
  obtain ⟨G, ok2⟩ := ok2
  obtain ⟨_, e1, r1⟩ := ok2.top
  obtain ⟨_, e2, r2⟩ := ok2.pop.top
  cases e1; cases e2
  exact hr He Ge H2 G _ _ v u ok2.pop.pop r2 r1 Q q
theorem ebx_tru (h : EVX K te δ (.d x) δ1) (t : TrD x b) : EBX K (tTru K te) δ b δ1 := by
  intro He Ge H τo τs σ hl ok Q q
  refine h He Ge H τo τs σ hl ok _ fun v H1 ⟨G, ok1⟩ => ?_
  obtain ⟨_, e1, r1⟩ := ok1.top
  cases e1
  exact ⟨b, t.to ok1.gh r1, q H1 ⟨G, ok1.pop⟩⟩
theorem ebx_not (h1 : EBX K tt δ b δ1) : EBX K (tNot tt) δ (!b) δ1 := by
  intro He Ge H τo τs σ hl ok Q q
  exact h1 He Ge H τo τs σ hl ok _ fun H1 ok1 => q H1 ok1
theorem ebx_orT (h1 : EBX K tt δ true δ1) : EBX K (tOr tt tu) δ true δ1 := by
  intro He Ge H τo τs σ hl ok Q q
  exact h1 He Ge H τo τs σ hl ok _ fun H1 ok1 => iteT (q H1 ok1)
theorem ebx_orF (h1 : EBX K tt δ false δ1) (h2 : EBX K tu δ1 b δ2) : EBX K (tOr tt tu) δ b δ2 := by
  intro He Ge H τo τs σ hl ok Q q
  exact h1 He Ge H τo τs σ hl ok _ fun H1 ok1 => iteF (h2 He Ge H1 τo τs σ hl ok1 Q q)
theorem ebx_andF (h1 : EBX K tt δ false δ1) : EBX K (tAnd tt tu) δ false δ1 := by
  intro He Ge H τo τs σ hl ok Q q
  exact h1 He Ge H τo τs σ hl ok _ fun H1 ok1 => iteF (q H1 ok1)
theorem ebx_andT (h1 : EBX K tt δ true δ1) (h2 : EBX K tu δ1 b δ2) : EBX K (tAnd tt tu) δ b δ2 := by
  intro He Ge H τo τs σ hl ok Q q
  exact h1 He Ge H τo τs σ hl ok _ fun H1 ok1 => iteT (h2 He Ge H1 τo τs σ hl ok1 Q q)
variable {N Bk Ct : List S → Prop} {Rt : S → List S → Prop} {Xc : List S → Addr → List (Str × D) → Prop} {t u : TS}
theorem sd_dropV (h : EVX K te δ s δ1) (n : N δ1) : SD K W (tDrop te) δ N Rt Bk Ct Xc := fun He Ge H σ Dn ok nx rt bk ct xx => h He Ge H [] [] σ rfl ok _ fun v H' ⟨G', ok'⟩ => nx _ _ _ ⟨G', ok'.pop⟩ n
theorem sd_dropXV (h : EXX K (WE W) te δ δ1 c cf) (n : Xc δ1 c cf) : SD K W (tDrop te) δ N Rt Bk Ct Xc := fun He Ge H σ Dn ok nx rt bk ct xx => h He Ge H [] [] σ rfl ok (fun cls d G' H' ok' x => xx c cf cls d G' σ δ1 H' ok' x n) _
/-- x.f += e, x an object of one's own in slot i -/
theorem sd_fldaug {i : Nat} {q : Option Addr} {f : Str} {rd : V → V → Hp → VK → Prop} (hi : δ[i]? = some (.ob q C fs)) (hf : fs.lookup f = some x) (h : EV K te δ (.d y)) (hr : RV2 K rd x y (.d z)) (cl : Cls K C) (na : NoAttr K C f) (hl : fs.length < 1000) (n : N (δ.set i (.ob q C (putD f z fs)))) : SD K W (sFldAug K (tVar i) te rd f) δ N Rt Bk Ct Xc := by
  intro He Ge H σ Dn ⟨G, ok⟩ nx rt bk ct xx
  obtain ⟨o, eo, a, dx, gs, rfl, kq, k1, k2, k3, k4, k5, k6, rf⟩ := ok.sl i _ hi
  obtain ⟨v, ev, rv⟩ := rf.lookup hf
  refine ⟨_, eo, a, C, dx, gs, v, rfl, k5, cl, na, ev, ?_⟩
  refine h He Ge H [some v] [.d x] σ rfl ⟨G, ok.pushD rv⟩ _ fun w H1 ⟨G1, ok1⟩ => ?_
  obtain ⟨_, e1, rw_⟩ := ok1.top
  cases e1
  obtain ⟨_, e2, rv1⟩ := ok1.pop.top
  cases e2
  refine hr He Ge H1 G1 _ _ v w ok1.pop.pop rv1 rw_ _ fun z' H2 ⟨G2, ok2⟩ => ?_
  change OKG K He Ge H2 G2 (some z' :: σ) (.d z :: δ) at ok2
  obtain ⟨_, e4, rz⟩ := ok2.top
  cases e4
  obtain ⟨o3, eo3, a3, dx3, gs3, e5, kq3, m1, m2, m3, m4, m5, m6, rf3⟩ := ok2.pop.sl i _ hi
  rw [eo] at eo3; cases eo3; cases e5
  exact ⟨dx3, gs3, m5, by rw [← rf3.length]; exact hl, nx _ _ _ ⟨G2, ok2.pop.changeOb hi eo m5 (rf3.put rz)⟩ n⟩
end
inductive MX (α : Type) where
  | no | ex (δ : List S) (c : Addr) (fs : List (Str × D)) | ok (a : α) (δ : List S)
/-- what a method's run tells that may change its object -/
inductive MR where
  | no | ex (c : Addr) (fs : List (Str × D)) | ok (s : S) (fs : List (Str × D))
def RM (F : List (Str × D) → List D → MR) (fs : List (Str × D)) (xs : List D) (out : Out) (fs2 : List (Str × D)) : Prop := (∃ s, F fs xs = .ok s fs2 ∧ out = .ret s) ∨ (∃ c cf, F fs xs = .ex c cf ∧ out = .exc c cf)
def EVXF (K : PySem.W.Frag) (W : WX) (te : TE) (δ : List S) : MX S → Prop
  | .no => True | .ex δ1 c fs => EXX K (WE W) te δ δ1 c fs | .ok s δ1 => EVX K te δ s δ1
def EAXF (K : PySem.W.Frag) (ta : TA) (δ : List S) : MX (List D) → Prop
  | .ok xs δ1 => EAX K ta δ xs δ1 | _ => True
def EBXF (K : PySem.W.Frag) (tt : TT) (δ : List S) : MX Bool → Prop
  | .ok b δ1 => EBX K tt δ b δ1 | _ => True
variable (Hy : PySem.W.Frag → Prop)
structure SX where
  t : PySem.W.Frag → WX → TE
  f : List S → MX S
  ok : ∀ K, Hy K → ∀ W δ, EVXF K W (t K W) δ (f δ)
structure SAX where
  t : PySem.W.Frag → WX → TA
  f : List S → MX (List D)
  ok : ∀ K, Hy K → ∀ W δ, EAXF K (t K W) δ (f δ)
structure STX where
  t : PySem.W.Frag → WX → TT
  f : List S → MX Bool
  ok : ∀ K, Hy K → ∀ W δ, EBXF K (t K W) δ (f δ)
variable {Hy}
section
variable {K : PySem.W.Frag} {δ δ1 : List S} {W : WX}
theorem SX.okS (e : SX Hy) (hk : Hy K) {W : WX} {s : S} (h : e.f δ = .ok s δ1) : EVX K (e.t K W) δ s δ1 := by have z := e.ok K hk W δ; rw [h] at z; exact z
theorem SX.exS (e : SX Hy) (hk : Hy K) {W : WX} {c : Addr} {fs : List (Str × D)} (h : e.f δ = .ex δ1 c fs) : EXX K (WE W) (e.t K W) δ δ1 c fs := by have z := e.ok K hk W δ; rw [h] at z; exact z
theorem SAX.okA (e : SAX Hy) (hk : Hy K) {W : WX} {s : List D} (h : e.f δ = .ok s δ1) : EAX K (e.t K W) δ s δ1 := by have z := e.ok K hk W δ; rw [h] at z; exact z
theorem STX.okB (e : STX Hy) (hk : Hy K) {W : WX} {s : Bool} (h : e.f δ = .ok s δ1) : EBX K (e.t K W) δ s δ1 := by have z := e.ok K hk W δ; rw [h] at z; exact z
end
def SX.of (e : SE Hy) : SX Hy where
  t := e.t
  f δ := match e.f δ with | .ok s => .ok s δ | .ex c fs => .ex δ c fs | .no => .no
  ok K hk W δ := by
    cases h : e.f δ with
    | ok s => exact evx_of (e.okS hk h)
    | ex c fs => exact exx_of (e.exS hk h)
    | no => trivial
def SAX.of (a : SA Hy) : SAX Hy where
  t := a.t
  f δ := match a.f δ with | .ok s => .ok s δ | _ => .no
  ok K hk W δ := by
    cases h : a.f δ with
    | ok s => exact eax_of (a.okA hk h)
    | _ => trivial
def STX.of (a : ST Hy) : STX Hy where
  t := a.t
  f δ := match a.f δ with | .ok s => .ok s δ | _ => .no
  ok K hk W δ := by
    cases h : a.f δ with
    | ok s => exact ebx_of (a.okB hk h)
    | _ => trivial
def MX.bin {α β : Type} (m : MX α) (f : α → List S → MX β) : MX β := match m with | .ok a δ => f a δ | _ => .no
@[simp] theorem MX.ok_bin {α β : Type} {a : α} {δ : List S} {f : α → List S → MX β} : (MX.ok a δ).bin f = f a δ := (rfl)
@[simp] theorem MX.no_bin {α β : Type} {f : α → List S → MX β} : (MX.no : MX α).bin f = .no := (rfl)
def MX.ofM {α : Type} (m : M α) (δ : List S) : MX α := match m with | .ok a => .ok a δ | _ => .no
@[simp] theorem MX.ofM_ok {α : Type} {a : α} {δ : List S} : MX.ofM (.ok a) δ = .ok a δ := (rfl)
@[simp] theorem SX.of_f (e : SE Hy) (δ : List S) : (SX.of e).f δ = match e.f δ with | .ok s => .ok s δ | .ex c fs => .ex δ c fs | .no => .no := (rfl)
@[simp] theorem SAX.of_f (e : SA Hy) (δ : List S) : (SAX.of e).f δ = match e.f δ with | .ok s => .ok s δ | _ => .no := (rfl)
@[simp] theorem STX.of_f (e : ST Hy) (δ : List S) : (STX.of e).f δ = match e.f δ with | .ok s => .ok s δ | _ => .no := (rfl)
/-- a call of a method that may change the object in slot i -/
def methXF (i : Nat) (C : Addr) (m : Str) (F : List (Str × D) → List D → MR) (xs : M (List D)) (δ : List S) : MX S :=
  match obj δ i with
  | .ok p => if p.2.1 = C ∧ p.2.2.lookup m = none then (match xs with
      | .ok xs => (match F p.2.2 xs with | .ok s fs2 => .ok s (δ.set i (.ob p.1 C fs2)) | .ex c cf => .ex (δ.set i .un) c cf | .no => .no)
      | _ => .no) else .no
  | _ => .no
def SX.meth (i : Nat) (C : Addr) (m : Str) (F : List (Str × D) → List D → MR) (a : SA Hy) : SX Hy where
  t K W := tMethS C m (spM K C (RM F)) (fun _ => E0) (tVar i) (a.t K W)
  f δ := match methXF i C m F (a.f δ) δ with | .ok s δ => .ok s δ | _ => .no
  ok K hk W δ := by
    unfold methXF
    cases h : obj δ i with
    | ok p =>
      simp only
      by_cases z : p.2.1 = C ∧ p.2.2.lookup m = none
      · rw [if_pos z]
        cases h2 : a.f δ with
        | ok xs =>
          simp only
          cases h3 : F p.2.2 xs with
          | ok s fs2 =>
            have hi := obj_ok h
            rw [z.1] at hi
            exact evx_meth hi z.2 (a.okA hk h2) (.inl ⟨s, h3, rfl⟩)
          | _ => trivial
        | _ => trivial
      · rw [if_neg z]; trivial
    | _ => trivial
@[simp] theorem SX.meth_f (i : Nat) (C : Addr) (m : Str) (F : List (Str × D) → List D → MR) (a : SA Hy) (δ : List S) : (SX.meth i C m F a).f δ = match methXF i C m F (a.f δ) δ with | .ok s δ => .ok s δ | _ => .no := (rfl)
def SAX.cons (e : SX Hy) (r : SAX Hy) : SAX Hy where
  t K W := tCons (e.t K W) (r.t K W)
  f δ := (e.f δ).bin fun s δ1 => (MX.ofM (toD s) δ1).bin fun x δ1 => (r.f δ1).bin fun xs δ2 => .ok (x :: xs) δ2
  ok K hk W δ := by
    cases h : e.f δ with
    | ok s δ1 =>
      simp only [MX.ok_bin]
      cases h2 : toD s with
      | ok x =>
        simp only [MX.ofM_ok, MX.ok_bin]
        cases h3 : r.f δ1 with
        | ok xs δ2 => exact eax_cons (evx_toD (e.okS hk h) h2) (r.okA hk h3)
        | _ => trivial
      | _ => trivial
    | _ => trivial
@[simp] theorem SAX.cons_f (e : SX Hy) (r : SAX Hy) (δ : List S) : (SAX.cons e r).f δ = (e.f δ).bin fun s δ1 => (MX.ofM (toD s) δ1).bin fun x δ1 => (r.f δ1).bin fun xs δ2 => .ok (x :: xs) δ2 := (rfl)
def SX.call (F : List D → M S) (a : SAX Hy) : SX Hy where
  t K W := tCall (spD K (RF F)) [] E0 (a.t K W)
  f δ := (a.f δ).bin fun xs δ1 => MX.ofM (F xs) δ1
  ok K hk W δ := by
    cases h : a.f δ with
    | ok xs δ1 =>
      simp only [MX.ok_bin]
      cases h2 : F xs with
      | ok s => exact evx_call (a.okA hk h) (.inl ⟨s, h2, rfl⟩)
      | _ => trivial
    | _ => trivial
@[simp] theorem SX.call_f (F : List D → M S) (a : SAX Hy) (δ : List S) : (SX.call F a).f δ = (a.f δ).bin fun xs δ1 => MX.ofM (F xs) δ1 := (rfl)
def SX.cb (o : OB Hy) (a : SAX Hy) : SX Hy where
  t K W := tCB (o.r K) (a.t K W)
  f δ := (a.f δ).bin fun xs δ1 => MX.ofM (.of (o.f xs)) δ1
  ok K hk W δ := by
    cases h : a.f δ with
    | ok xs δ1 =>
      simp only [MX.ok_bin]
      cases h2 : o.f xs with
      | some s => exact evx_cb (a.okA hk h) (o.ok K hk xs s h2)
      | none => trivial
    | _ => trivial
@[simp] theorem SX.cb_f (o : OB Hy) (a : SAX Hy) (δ : List S) : (SX.cb o a).f δ = (a.f δ).bin fun xs δ1 => MX.ofM (.of (o.f xs)) δ1 := (rfl)
def SX.op (o : O2) (a b : SX Hy) : SX Hy where
  t K W := tOp (o.r K) (a.t K W) (b.t K W)
  f δ := (a.f δ).bin fun s δ1 => (MX.ofM (toD s) δ1).bin fun x δ1 => (b.f δ1).bin fun s δ2 => (MX.ofM (toD s) δ2).bin fun y δ2 => MX.ofM (.of (o.f x y)) δ2
  ok K hk W δ := by
    cases h : a.f δ with
    | ok s δ1 =>
      simp only [MX.ok_bin]
      cases h2 : toD s with
      | ok x =>
        simp only [MX.ofM_ok, MX.ok_bin]
        cases h3 : b.f δ1 with
        | ok s2 δ2 =>
          simp only [MX.ok_bin]
          cases h4 : toD s2 with
          | ok y =>
            simp only [MX.ofM_ok, MX.ok_bin]
            cases h5 : o.f x y with
            | some s => exact evx_op (evx_toD (a.okS hk h) h2) (evx_toD (b.okS hk h3) h4) (o.ok K x y s h5)
            | none => trivial
          | _ => trivial
        | _ => trivial
      | _ => trivial
    | _ => trivial
@[simp] theorem SX.op_f (o : O2) (a b : SX Hy) (δ : List S) : (SX.op o a b).f δ = (a.f δ).bin fun s δ1 => (MX.ofM (toD s) δ1).bin fun x δ1 => (b.f δ1).bin fun s δ2 => (MX.ofM (toD s) δ2).bin fun y δ2 => MX.ofM (.of (o.f x y)) δ2 := (rfl)
def STX.tru (e : SX Hy) : STX Hy where
  t K W := tTru K (e.t K W)
  f δ := (e.f δ).bin fun s δ1 => (MX.ofM (toD s) δ1).bin fun x δ1 => MX.ofM (.of (Far.tru x)) δ1
  ok K hk W δ := by
    cases h : e.f δ with
    | ok s δ1 =>
      simp only [MX.ok_bin]
      cases h2 : toD s with
      | ok x =>
        simp only [MX.ofM_ok, MX.ok_bin]
        cases h3 : Far.tru x with
        | some b => exact ebx_tru (evx_toD (e.okS hk h) h2) (tru_ok h3)
        | none => trivial
      | _ => trivial
    | _ => trivial
@[simp] theorem STX.tru_f (e : SX Hy) (δ : List S) : (STX.tru e).f δ = (e.f δ).bin fun s δ1 => (MX.ofM (toD s) δ1).bin fun x δ1 => MX.ofM (.of (Far.tru x)) δ1 := (rfl)
def STX.not (c : STX Hy) : STX Hy where
  t K W := tNot (c.t K W)
  f δ := (c.f δ).bin fun b δ1 => .ok (!b) δ1
  ok K hk W δ := by
    cases h : c.f δ with
    | ok b δ1 => exact ebx_not (c.okB hk h)
    | _ => trivial
@[simp] theorem STX.not_f (c : STX Hy) (δ : List S) : (STX.not c).f δ = (c.f δ).bin fun b δ1 => .ok (!b) δ1 := (rfl)
def STX.or (c e : STX Hy) : STX Hy where
  t K W := tOr (c.t K W) (e.t K W)
  f δ := (c.f δ).bin fun b δ1 => if b = true then .ok true δ1 else e.f δ1
  ok K hk W δ := by
    cases h : c.f δ with
    | ok b δ1 =>
      simp only [MX.ok_bin]
      cases b with
      | true => rw [if_pos rfl]; exact ebx_orT (c.okB hk h)
      | false =>
        rw [if_neg (fun z => nomatch z)]
        cases h2 : e.f δ1 with
        | ok k δ2 => exact ebx_orF (c.okB hk h) (e.okB hk h2)
        | _ => trivial
    | _ => trivial
@[simp] theorem STX.or_f (c e : STX Hy) (δ : List S) : (STX.or c e).f δ = (c.f δ).bin fun b δ1 => if b = true then .ok true δ1 else e.f δ1 := (rfl)
def STX.and (c e : STX Hy) : STX Hy where
  t K W := tAnd (c.t K W) (e.t K W)
  f δ := (c.f δ).bin fun b δ1 => if b = true then e.f δ1 else .ok false δ1
  ok K hk W δ := by
    cases h : c.f δ with
    | ok b δ1 =>
      simp only [MX.ok_bin]
      cases b with
      | false => rw [if_neg (fun z => nomatch z)]; exact ebx_andF (c.okB hk h)
      | true =>
        rw [if_pos rfl]
        cases h2 : e.f δ1 with
        | ok k δ2 => exact ebx_andT (c.okB hk h) (e.okB hk h2)
        | _ => trivial
    | _ => trivial
@[simp] theorem STX.and_f (c e : STX Hy) (δ : List S) : (STX.and c e).f δ = (c.f δ).bin fun b δ1 => if b = true then e.f δ1 else .ok false δ1 := (rfl)
def Fl.expX {α : Type} (m : MX α) (f : α → List S → Fl) : Fl := match m with | .no => .no | .ex δ c fs => .ex δ c fs | .ok a δ => f a δ
@[simp] theorem Fl.ok_expX {α : Type} {a : α} {δ : List S} {f : α → List S → Fl} : Fl.expX (.ok a δ) f = f a δ := (rfl)
@[simp] theorem Fl.ex_expX {α : Type} {c : Addr} {fs : List (Str × D)} {δ : List S} {f : α → List S → Fl} : Fl.expX (.ex δ c fs) f = .ex δ c fs := (rfl)
def SS.dropX (e : SX Hy) : SS Hy where
  t K W := tDrop (e.t K W)
  f δ := Fl.expX (e.f δ) fun _ δ1 => .nx δ1
  ok K hk W δ := by
    cases h : e.f δ with
    | no => trivial
    | ex δ1 c fs => exact sd_dropXV (e.exS hk h) rfl
    | ok s δ1 => exact sd_dropV (e.okS hk h) rfl
@[simp] theorem SS.dropX_f (e : SX Hy) (δ : List S) : (SS.dropX e).f δ = Fl.expX (e.f δ) fun _ δ1 => .nx δ1 := (rfl)
/-- return e, and what the slots are then -/
def SS.retS (e : SE Hy) : SS Hy where
  t K W := tRet (e.t K W)
  f δ := Fl.exp (e.f δ) δ fun s => if notOt s = true then .rto s δ else .no
  ok K hk W δ := by
    cases h : e.f δ with
    | no => trivial
    | ex c fs => exact sd_retX (e.exS hk h) rfl
    | ok s =>
      rw [Fl.ok_exp]
      by_cases z : notOt s = true
      · rw [if_pos z]; exact sd_ret (e.okS hk h) z (.inr rfl)
      · rw [if_neg z]; trivial
@[simp] theorem SS.retS_f (e : SE Hy) (δ : List S) : (SS.retS e).f δ = Fl.exp (e.f δ) δ fun s => if notOt s = true then .rto s δ else .no := (rfl)
@[simp] theorem notOt_d {x : D} : notOt (.d x) = true := (rfl)
@[simp] theorem notOt_own {x : List D} : notOt (.own x) = true := (rfl)
/-- an augmented operation on a field -/
structure OF where
  r : V → V → Hp → VK → Prop
  f : D → D → Option D
  ok : ∀ K x y z, f x y = some z → RV2 K r x y (.d z)
def SS.augF (i : Nat) (f : Str) (Cs : List Addr) (hf : FldOk Hy f Cs) (o : OF) (e : SE Hy) : SS Hy where
  t K W := sFldAug K (tVar i) (e.t K W) o.r f
  f δ := Fl.exn (obj δ i) fun p => Fl.exn (e.fd δ) fun y => match p.2.2.lookup f with
    | some x => (match o.f x y with | some z => if p.2.1 ∈ Cs ∧ p.2.2.length < 1000 then .nx (δ.set i (.ob p.1 p.2.1 (putD f z p.2.2))) else .no | none => .no)
    | none => .no
  ok K hk W δ := by
    cases h : obj δ i with
    | ok p =>
      rw [Fl.ok_exn]
      cases h2 : e.fd δ with
      | ok y =>
        rw [Fl.ok_exn]
        cases h3 : p.2.2.lookup f with
        | none => trivial
        | some x =>
          simp only
          cases h4 : o.f x y with
          | none => trivial
          | some z =>
            simp only
            by_cases q : p.2.1 ∈ Cs ∧ p.2.2.length < 1000
            · rw [if_pos q]; obtain ⟨c, n⟩ := hf K hk _ q.1; exact sd_fldaug (obj_ok h) h3 (e.okD hk h2) (o.ok K x y z h4) c n q.2 rfl
            · rw [if_neg q]; trivial
      | _ => trivial
    | _ => trivial
@[simp] theorem SS.augF_f (i : Nat) (f : Str) (Cs : List Addr) (hf : FldOk Hy f Cs) (o : OF) (e : SE Hy) (δ : List S) : (SS.augF i f Cs hf o e).f δ = Fl.exn (obj δ i) fun p => Fl.exn (e.fd δ) fun y => match p.2.2.lookup f with
    | some x => (match o.f x y with | some z => if p.2.1 ∈ Cs ∧ p.2.2.length < 1000 then .nx (δ.set i (.ob p.1 p.2.1 (putD f z p.2.2))) else .no | none => .no)
    | none => .no := (rfl)
def fAdd : OF := ⟨rAdd, fun x y => match x, y with | .int i, .int j => some (.int (i + j)) | _, _ => none, fun K x y z h => by
  cases x <;> cases y <;> try (cases h; done)
  simp only [Option.some.injEq] at h
  subst h
  intro He Ge H G σ δ v u ok rv ru Q q
  cases rv; cases ru
  exact ⟨_, _, rfl, rfl, q _ _ ⟨G, ok.pushD .int⟩⟩⟩
@[simp] theorem fAdd_f {i j : Int} : fAdd.f (.int i) (.int j) = some (.int (i + j)) := (rfl)
def lendOM (Cs : List Addr) (ll : Bool) (δ : List S) : M S → M S
  | .ok s => if δ.all (okl Cs ll) = true ∧ rfoS Cs ll s = true then .ok s else .no
  | .ex c cf => if δ.all (okl Cs ll) = true ∧ (cf.all fun p => rfo Cs ll p.2) = true then .ex c cf else .no
  | .no => .no
def SE.lendO (Cs : List Addr) (ll : Bool) (e : SE Hy) : SE Hy where
  t K W := e.t K W
  f δ := lendOM Cs ll δ (e.f (δ.map lendSO))
  ok K hk W δ := by
    have z := e.ok K hk W (δ.map lendSO)
    cases h : e.f (δ.map lendSO) with
    | ok s =>
      rw [h] at z
      show EVF K W _ δ (if _ then .ok s else .no)
      by_cases q : δ.all (okl Cs ll) = true ∧ rfoS Cs ll s = true
      · rw [if_pos q]; exact ev_lendO z q.1 q.2
      · rw [if_neg q]; trivial
    | ex c cf =>
      rw [h] at z
      show EVF K W _ δ (if _ then .ex c cf else .no)
      by_cases q : δ.all (okl Cs ll) = true ∧ (cf.all fun p => rfo Cs ll p.2) = true
      · rw [if_pos q]; exact ex_lendO z q.1 (by rw [rfoF_all]; exact q.2)
      · rw [if_neg q]; trivial
    | no => trivial
@[simp] theorem SE.lendO_f (Cs : List Addr) (ll : Bool) (e : SE Hy) (δ : List S) : (SE.lendO Cs ll e).f δ = lendOM Cs ll δ (e.f (δ.map lendSO)) := (rfl)
@[simp] theorem lendOM_ok {Cs : List Addr} {ll : Bool} {δ : List S} {s : S} : lendOM Cs ll δ (.ok s) = if δ.all (okl Cs ll) = true ∧ rfoS Cs ll s = true then .ok s else .no := (rfl)
@[simp] theorem lendOM_ex {Cs : List Addr} {ll : Bool} {δ : List S} {c : Addr} {cf : List (Str × D)} : lendOM Cs ll δ (.ex c cf) = if δ.all (okl Cs ll) = true ∧ (cf.all fun p => rfo Cs ll p.2) = true then .ex c cf else .no := (rfl)
def ST.lendO (Cs : List Addr) (ll : Bool) (e : ST Hy) : ST Hy where
  t K W := e.t K W
  f δ := if δ.all (okl Cs ll) = true then e.f (δ.map lendSO) else .no
  ok K hk W δ := by
    have z := e.ok K hk W (δ.map lendSO)
    by_cases q : δ.all (okl Cs ll) = true
    · rw [if_pos q]
      cases h : e.f (δ.map lendSO) with
      | ok b => rw [h] at z; exact eb_lendO z q
      | _ => trivial
    · rw [if_neg q]; trivial
@[simp] theorem ST.lendO_f (Cs : List Addr) (ll : Bool) (e : ST Hy) (δ : List S) : (ST.lendO Cs ll e).f δ = if δ.all (okl Cs ll) = true then e.f (δ.map lendSO) else .no := (rfl)
@[simp] theorem lendSO_own {xs : List D} : lendSO (.own xs) = .d (.lst xs) := (rfl)
@[simp] theorem lendSO_ob {q : Option Addr} {C : Addr} {fs : List (Str × D)} : lendSO (.ob q C fs) = .d (.ins C fs) := (rfl)
@[simp] theorem lendSO_d {x : D} : lendSO (.d x) = .d x := (rfl)
@[simp] theorem lendSO_un : lendSO .un = .un := (rfl)
@[simp] theorem okl_own {Cs : List Addr} {ll : Bool} {xs : List D} : okl Cs ll (.own xs) = !ll := (rfl)
@[simp] theorem okl_ob {Cs : List Addr} {ll : Bool} {q : Option Addr} {C : Addr} {fs : List (Str × D)} : okl Cs ll (.ob q C fs) = Cs.contains C := (rfl)
@[simp] theorem okl_d {Cs : List Addr} {ll : Bool} {x : D} : okl Cs ll (.d x) = true := (rfl)
@[simp] theorem okl_un {Cs : List Addr} {ll : Bool} : okl Cs ll .un = true := (rfl)
@[simp] theorem rfoS_d {Cs : List Addr} {ll : Bool} {x : D} : rfoS Cs ll (.d x) = rfo Cs ll x := (rfl)
@[simp] theorem rfoS_own {Cs : List Addr} {ll : Bool} {xs : List D} : rfoS Cs ll (.own xs) = xs.all (rfo Cs ll) := rfoL_all xs
section
variable {Cs : List Addr} {ll : Bool}
@[simp] theorem rfo_non : rfo Cs ll .non = true := by rw [rfo]
@[simp] theorem rfo_bl {b : Bool} : rfo Cs ll (.bl b) = true := by rw [rfo]
@[simp] theorem rfo_int {b : Int} : rfo Cs ll (.int b) = true := by rw [rfo]
@[simp] theorem rfo_str {b : Str} : rfo Cs ll (.str b) = true := by rw [rfo]
@[simp] theorem rfo_tup {xs : List D} : rfo Cs ll (.tup xs) = xs.all (rfo Cs ll) := by rw [rfo]; exact rfoL_all xs
@[simp] theorem rfo_lst {xs : List D} : rfo Cs ll (.lst xs) = (ll && xs.all (rfo Cs ll)) := by rw [rfo, rfoL_all xs]
@[simp] theorem rfo_ins {C : Addr} {fs : List (Str × D)} : rfo Cs ll (.ins C fs) = (!(Cs.contains C) && fs.all fun p => rfo Cs ll p.2) := by rw [rfo, rfoF_all fs]
end
def makeOF (C : Addr) (F : List (Str × D) → List D → MR) (xs : List D) : M S := match F [] xs with | .ok (.d .non) fs => .ok (.ob none C fs) | _ => .no
def SE.makeO (C : Addr) (F : List (Str × D) → List D → MR) (a : SA Hy) : SE Hy where
  t K W := tMakeS C (spM K C (RM F)) (fun _ => E0) (a.t K W)
  f δ := (a.f δ).bin (makeOF C F)
  ok K hk W δ := by
    cases h : a.f δ with
    | ok xs =>
      rw [M.ok_bin]
      unfold makeOF
      split
      · rename_i fs h2; exact ev_makeO (a.okA hk h) (.inl ⟨_, h2, rfl⟩)
      · trivial
    | _ => trivial
@[simp] theorem SE.makeO_f (C : Addr) (F : List (Str × D) → List D → MR) (a : SA Hy) (δ : List S) : (SE.makeO C F a : SE Hy).f δ = (a.f δ).bin (makeOF C F) := (rfl)
def runM (b : SS Hy) (n np : Nat) (C x : Addr) (fs : List (Str × D)) (xs : List D) : MR := if xs.length + 1 = np then (match b.f (slotsM n x C fs xs) with
    | .nx (.ob (some x') C' fs' :: _) => if x' = x ∧ C' = C then .ok (.d .non) fs' else .no
    | .rto s (.ob (some x') C' fs' :: _) => if x' = x ∧ C' = C then .ok s fs' else .no
    | .ex _ c fs => .ex c fs | _ => .no) else .no
open Classical in
/-- a method's run: the same wherever its object lies -/
noncomputable def mR (F : Addr → List (Str × D) → List D → MR) (fs : List (Str × D)) (xs : List D) : MR := if ∀ x, F x fs xs = F 0 fs xs then F 0 fs xs else .no
theorem mR_eq {F : Addr → List (Str × D) → List D → MR} {fs : List (Str × D)} {xs : List D} {r : MR} (h : ∀ x, F x fs xs = r) : mR F fs xs = r := by
  unfold mR; rw [if_pos (fun x => (h x).trans (h 0).symm)]; exact h 0
theorem mR_ok {F : Addr → List (Str × D) → List D → MR} {fs : List (Str × D)} {xs : List D} {r : MR} (h : mR F fs xs = r) (n : r ≠ .no) : ∀ x, F x fs xs = r := by
  unfold mR at h
  split at h
  · rename_i q; intro x; rw [q x]; exact h
  · exact (n h.symm).elim
theorem runM_len {b : SS Hy} {n np : Nat} {C : Addr} {fs fs2 : List (Str × D)} {xs : List D} {out : Out} (h : RM (mR (runM b n np C)) fs xs out fs2) : xs.length + 1 = np := by
  by_cases e : xs.length + 1 = np
  · exact e
  · rcases h with ⟨s, h, _⟩ | ⟨c, cf, h, _⟩ <;> (have h := mR_ok h (fun z => nomatch z) 0; unfold runM at h; rw [if_neg e] at h; cases h)
theorem sd_runM {K : PySem.W.Frag} {b : SS Hy} {n np : Nat} {E : WX} {out : Out} {x C : Addr} {fs fs2 : List (Str × D)} {xs : List D} (hk : Hy K) (h : RM (mR (runM b n np C)) fs xs out fs2) : SDefM K E x C (b.t K E) (slotsM n x C fs xs) out fs2 := by
  unfold SDefM
  rcases h with ⟨s, h, rfl⟩ | ⟨c, cf, h, rfl⟩
  · replace h := mR_ok h (fun z => nomatch z) x
    unfold runM at h
    split at h
    · have hn : b.f (slotsM n x C fs xs) ≠ .no := fun z => by rw [z] at h; cases h
      refine sdr_mono (b.okR hk hn) (fun δ' e => ?_) (fun s _ e => ?_) (fun δ' e => ?_) (fun δ' e => ?_) (fun δ' c fs e => ?_) (fun s δ' e => ?_) <;> rw [e] at h
      · cases δ' with
        | nil => cases h
        | cons s δ' =>
          cases s with
          | ob x' C' fs' =>
            cases x' with
            | none => cases h
            | some x' =>
              simp only at h
              split at h
              · rename_i q; obtain ⟨rfl, rfl⟩ := q; cases h; exact ⟨rfl, rfl⟩
              · cases h
          | _ => cases h
      · cases h
      · cases h
      · cases h
      · cases h
      · cases δ' with
        | nil => cases h
        | cons s' δ' =>
          cases s' with
          | ob x' C' fs' =>
            cases x' with
            | none => cases h
            | some x' =>
              simp only at h
              split at h
              · rename_i q; obtain ⟨rfl, rfl⟩ := q; cases h; exact ⟨rfl, rfl⟩
              · cases h
          | _ => cases h
    · cases h
  · replace h := mR_ok h (fun z => nomatch z) x
    unfold runM at h
    split at h
    · have hn : b.f (slotsM n x C fs xs) ≠ .no := fun z => by rw [z] at h; cases h
      refine sdr_mono (b.okR hk hn) (fun δ' e => ?_) (fun s _ e => ?_) (fun δ' e => ?_) (fun δ' e => ?_) (fun δ' c fs e => ?_) (fun s δ' e => ?_) <;> rw [e] at h
      · cases δ' with
        | nil => cases h
        | cons s δ' =>
          cases s with
          | ob x' C' fs' =>
            cases x' with
            | none => cases h
            | some x' =>
              simp only at h
              split at h <;> cases h
          | _ => cases h
      · cases h
      · cases h
      · cases h
      · cases h; rfl
      · cases δ' with
        | nil => cases h
        | cons s' δ' =>
          cases s' with
          | ob x' C' fs' =>
            cases x' with
            | none => cases h
            | some x' =>
              simp only at h
              split at h <;> cases h
          | _ => cases h
    · cases h
def finM (x C : Addr) (r : Fl) : MR := match r with
    | .nx (.ob (some x') C' fs' :: _) => if x' = x ∧ C' = C then .ok (.d .non) fs' else .no
    | .rto s (.ob (some x') C' fs' :: _) => if x' = x ∧ C' = C then .ok s fs' else .no
    | .ex _ c fs => .ex c fs | _ => .no
@[simp] theorem finM_nx {x C : Addr} {fs : List (Str × D)} {l : List S} : finM x C (.nx (.ob (some x) C fs :: l)) = .ok (.d .non) fs := by unfold finM; simp
@[simp] theorem finM_rt {x C : Addr} {fs : List (Str × D)} {l : List S} {s : S} : finM x C (.rto s (.ob (some x) C fs :: l)) = .ok s fs := by unfold finM; simp
@[simp] theorem finM_ex {x C c : Addr} {fs : List (Str × D)} {l : List S} : finM x C (.ex l c fs) = .ex c fs := (rfl)
@[simp] theorem Fl.rto_next {s : S} {δ : List S} {f : List S → Fl} : (Fl.rto s δ).next f = .rto s δ := (rfl)
open PyProof.Rows
section
variable {P : Program} {w : World} {K : PySem.W.Frag} {mg : Str → Option Value} {base : Heap}
theorem spM_len {C : Addr} {R : List (Str × D) → List D → Out → List (Str × D) → Prop} {n : Nat} (h : ∀ fs xs out fs2, R fs xs out fs2 → xs.length + 1 = n) : ∀ vs H Q E, spM K C R vs H Q E → vs.length = n := fun vs H Q E ⟨G, x, dx, us, fs, xs, out, fs2, e0, _, _, r, hr, _⟩ => by
  rw [e0, List.length_cons, ← r.length]; exact h fs xs out fs2 hr
theorem ok_meth {C : Addr} {x qual : Str} {st : Stmt} {f : Addr} {fd : FuncData} {N ps : List Str} {k : Nat} {R : List (Str × D) → List D → Out → List (Str × D) → Prop} {t : TS} (F : Fun K x qual st f fd) (S : FnScope N ps (defScope st)) (hl : ∀ fs xs out fs2, R fs xs out fs2 → xs.length + 1 = ps.length) (hN : 0 < N.length)
    (hd : ∀ (cdv : Value) (A : Around) (outer : List Env) (s : Shared) (H : Hp) (E : XK), Room k (A.deeper (envOfC qual (defScope st) s.heap.objs.size f cdv)) → PSs (cxOf CX0 P w K mg base N qual (defScope st) f cdv A outer s H E).nox (defBody st) t)
    (hs : ∀ (E : WX) x fs xs out fs2, R fs xs out fs2 → SDefM K E x C t (slotsM N.length x C fs xs) out fs2) : FnOk P w K mg base CX0 (k + 1) f fd ps (spM K C R) :=
  F.ok S (spM_len hl) fun cdv A outer s H vs Q E hr h => ⟨t, hd cdv A outer s H E hr, meth_run hN h (hs _)⟩
end
end Far
namespace Far
open PySem L2 PySem.Spec PyProof.Rows
section
variable {CX : CXT} {P : Program} {w : World} {K : PySem.W.Frag} {mg : Str → Option Value}
end
end Far
namespace Far
open PySem L2 PySem.Spec PyProof.Rows
abbrev FunDf (K : PySem.W.Frag) (x qual : Str) (st : Stmt) (f : Addr) (fd : FuncData) (dvs : List V) : Prop := FunD K x qual (defArgs st) (defBody st) (defScope st) dvs [] f fd
section
variable {P : Program} {w : World} {K : PySem.W.Frag} {mg : Str → Option Value} {base : Heap}
end
/-- all arguments told, the last one by its default None -/
theorem FunDf.all {K : PySem.W.Frag} {x qual : Str} {st : Stmt} {f : Addr} {fd : FuncData} {ps : List Str} (F : FunDf K x qual st f fd [.non])
    (h : ∀ (T : Addr) (kV doc pm : Value) (an : Option Addr) (cdv ct : Value) (us its : List Value), us.length = ps.length → its.length = 1 → ∃ k, bindArgs (PySem.W.fnOf x qual (defArgs st) (defBody st) (defScope st) (.ref T) kV doc pm an cdv ct) { pos := us } = seqItems? (.ref T) >>= k ∧ k (some its.toArray) = pure (ps.zip (us ++ its.drop 1))) : Binds K fd ps [] := by
  obtain ⟨ds, h1, h2⟩ := FunD.binds1 F ps.length 1 (by simp) (by simp) (fun T kV doc pm an cdv ct us its l1 l2 => h T kV doc pm an cdv ct us its l1 (by simpa using l2))
  cases h1
  exact h2
theorem FunDf.one {K : PySem.W.Frag} {x qual : Str} {st : Stmt} {f : Addr} {fd : FuncData} {ps : List Str} {m : Nat} (F : FunDf K x qual st f fd [.non]) (hm : m + 1 = ps.length)
    (h : ∀ (T : Addr) (kV doc pm : Value) (an : Option Addr) (cdv ct : Value) (us its : List Value), us.length = m → its.length = 1 → ∃ k, bindArgs (PySem.W.fnOf x qual (defArgs st) (defBody st) (defScope st) (.ref T) kV doc pm an cdv ct) { pos := us } = seqItems? (.ref T) >>= k ∧ k (some its.toArray) = pure (ps.zip (us ++ its.drop 0))) : Binds K fd ps [.none] := by
  obtain ⟨ds, h1, h2⟩ := FunD.binds1 F m 0 (by simp) (by simpa using hm) (fun T kV doc pm an cdv ct us its l1 l2 => h T kV doc pm an cdv ct us its l1 (by simpa using l2))
  cases h1 with
  | cons a b =>
    cases b
    have e : _ = Value.none := a
    subst e
    exact h2
section
variable {K : PySem.W.Frag} {δ : List S} {ta : TE} {C : Addr} {fs : List (Str × D)} {s : S}
end
section
variable {Hy : PySem.W.Frag → Prop} {δ : List S}
end
end Far
namespace Far
open PySem L2
section
variable {K : PySem.W.Frag} {He Ge H G : Hp} {σ : St} {δ : List S}
end
section
variable {Hy : PySem.W.Frag → Prop}
def frzT (s : S) : M S := match s with | .ot A xs B => .ok (.d (.tup (A ++ .lst xs :: B))) | _ => .no
variable {δ : List S}
@[simp] theorem frzT_ot {A xs B : List D} : frzT (.ot A xs B) = .ok (.d (.tup (A ++ .lst xs :: B))) := (rfl)
end
end Far
namespace Far
open PySem L2
section
variable {K : PySem.W.Frag} {He Ge H G : Hp} {σ : L2.St} {δ : List S}
theorem OKG.move {a b : Nat} {s : S} (h : OKG K He Ge H G σ δ) (ha : a < δ.length) (hb : δ[b]? = some s) (es : σ[a]? = σ[b]?) (hab : a ≠ b) : OKG K He Ge H G σ ((δ.set b .un).set a s) where
  ge := h.ge
  gh := h.gh
  he := h.he
  nc := h.nc
  sl := fun i t q => by
    obtain ⟨o, eo, k⟩ := h.sl b s hb
    by_cases q1 : a = i
    · subst q1
      rw [List.getElem?_set_self (by rw [List.length_set]; exact ha)] at q; cases q
      exact ⟨o, by rw [es]; exact eo, k⟩
    · rw [List.getElem?_set_ne q1] at q
      by_cases q2 : b = i
      · subst q2
        rw [List.getElem?_set_self (List.getElem?_eq_some_iff.mp hb).1] at q; cases q
        exact ⟨o, eo, trivial⟩
      · rw [List.getElem?_set_ne q2] at q
        exact h.sl i t q
  ne := fun i j u t p hij hi hj o1 o2 e1 e2 => by
    have key : ∀ (i : Nat) (u : S), ((δ.set b .un).set a s)[i]? = some u → owned u = true → ∃ i', δ[i']? = some u ∧ (σ[i]? = σ[i']?) ∧ ((i = a ∧ i' = b) ∨ (i ≠ a ∧ i ≠ b ∧ i' = i)) := fun i u hi ho => by
      by_cases q1 : a = i
      · subst q1
        rw [List.getElem?_set_self (by rw [List.length_set]; exact ha)] at hi; cases hi
        exact ⟨b, hb, es, .inl ⟨rfl, rfl⟩⟩
      · rw [List.getElem?_set_ne q1] at hi
        by_cases q2 : b = i
        · subst q2
          rw [List.getElem?_set_self (List.getElem?_eq_some_iff.mp hb).1] at hi; cases hi
          cases ho
        · rw [List.getElem?_set_ne q2] at hi
          exact ⟨i, hi, rfl, .inr ⟨fun z => q1 z.symm, fun z => q2 z.symm, rfl⟩⟩
    obtain ⟨i', a1, a2, a3⟩ := key i u hi o1
    obtain ⟨j', b1, b2, b3⟩ := key j t hj o2
    refine h.ne i' j' u t p (fun z => ?_) a1 b1 o1 o2 (by rw [← a2]; exact e1) (by rw [← b2]; exact e2)
    omega
theorem OKG.swapIn {A : L2.St} {B : List S} {σ2 : L2.St} {n j : Nat} {R : List S} {s : S} (ok : OKG K He Ge H G ((A ++ σ) ++ σ2) ((B ++ (δ ++ List.replicate n .un)) ++ R)) (hl : A.length = B.length) (hL : (A ++ σ).length = (B ++ (δ ++ List.replicate n S.un)).length) (hj : δ[j]? = some s) (jr : j < R.length) (e : σ[j]? = σ2[j]?) :
    OKG K He Ge H G ((A ++ σ) ++ σ2) ((B ++ (δ.set j .un ++ List.replicate n .un)) ++ R.set j s) := by
  have jd := (List.getElem?_eq_some_iff.mp hj).1
  have b1 : B.length + j < (B ++ (δ ++ List.replicate n S.un)).length := by simp only [List.length_append]; omega
  have js : j < σ.length := by
    simp only [List.length_append, List.length_replicate] at hL; omega
  have hb : ((B ++ (δ ++ List.replicate n S.un)) ++ R)[B.length + j]? = some s := by
    rw [List.getElem?_append_left b1, List.getElem?_append_right (Nat.le_add_right ..), Nat.add_sub_cancel_left, List.getElem?_append_left jd]; exact hj
  have es : ((A ++ σ) ++ σ2)[(B ++ (δ ++ List.replicate n S.un)).length + j]? = ((A ++ σ) ++ σ2)[B.length + j]? := by
    rw [← hL, List.getElem?_append_right (Nat.le_add_right ..), Nat.add_sub_cancel_left, List.getElem?_append_left (by rw [hL]; exact b1), ← hl, List.getElem?_append_right (Nat.le_add_right ..), Nat.add_sub_cancel_left, e]
  have z := ok.move (a := (B ++ (δ ++ List.replicate n S.un)).length + j) (b := B.length + j) (s := s) (by simp only [List.length_append] at b1 ⊢; omega) hb es (by omega)
  rw [List.set_append_left _ _ b1, List.set_append_right _ _ (Nat.le_add_right ..), Nat.add_sub_cancel_left, List.set_append_left _ _ jd] at z
  have len : (B ++ (δ.set j S.un ++ List.replicate n S.un)).length = (B ++ (δ ++ List.replicate n S.un)).length := by simp
  rw [List.set_append_right _ _ (by rw [len]; exact Nat.le_add_right ..), len, Nat.add_sub_cancel_left] at z
  exact z
theorem OKG.swapOut {A : L2.St} {B : List S} {σ2 : L2.St} {n j : Nat} {R : List S} {s : S} (ok : OKG K He Ge H G ((A ++ σ) ++ σ2) ((B ++ (δ ++ List.replicate n .un)) ++ R)) (hl : A.length = B.length) (hL : (A ++ σ).length = (B ++ (δ ++ List.replicate n S.un)).length) (hj : R[j]? = some s) (jd : j < δ.length) (e : σ[j]? = σ2[j]?) :
    OKG K He Ge H G ((A ++ σ) ++ σ2) ((B ++ (δ.set j s ++ List.replicate n .un)) ++ R.set j .un) := by
  have jr := (List.getElem?_eq_some_iff.mp hj).1
  have b1 : B.length + j < (B ++ (δ ++ List.replicate n S.un)).length := by simp only [List.length_append]; omega
  have hb : ((B ++ (δ ++ List.replicate n S.un)) ++ R)[(B ++ (δ ++ List.replicate n S.un)).length + j]? = some s := by
    rw [List.getElem?_append_right (Nat.le_add_right ..), Nat.add_sub_cancel_left]; exact hj
  have es : ((A ++ σ) ++ σ2)[(B ++ (δ ++ List.replicate n S.un)).length + j]? = ((A ++ σ) ++ σ2)[B.length + j]? := by
    rw [← hL, List.getElem?_append_right (Nat.le_add_right ..), Nat.add_sub_cancel_left, List.getElem?_append_left (by rw [hL]; exact b1), ← hl, List.getElem?_append_right (Nat.le_add_right ..), Nat.add_sub_cancel_left, e]
  have z := ok.move (a := B.length + j) (b := (B ++ (δ ++ List.replicate n S.un)).length + j) (s := s) (by simp only [List.length_append] at b1 ⊢; omega) hb es.symm (by omega)
  rw [List.set_append_right _ _ (Nat.le_add_right ..), Nat.add_sub_cancel_left, List.set_append_left _ _ b1, List.set_append_right _ _ (Nat.le_add_right ..), Nat.add_sub_cancel_left, List.set_append_left _ _ jd] at z
  exact z
theorem set_id {α : Type} {l : List α} {j : Nat} {s : α} (h : l[j]? = some s) : l.set j s = l := by
  refine List.ext_getElem? fun i => ?_
  by_cases q : j = i
  · subst q; rw [List.getElem?_set_self (List.getElem?_eq_some_iff.mp h).1, h]
  · rw [List.getElem?_set_ne q]
theorem hide_ob {vs : List Nat} {j : Nat} {q : Option Addr} {C : Addr} {fs fs' : List (Str × D)} (h : δ[j]? = some (.ob q C fs)) : hide (δ.set j (.ob q C fs')) vs = hide δ vs := by
  unfold hide
  rw [List.map_set, show hideS (.ob q C fs') = .un from rfl, set_id (by rw [List.getElem?_map, h]; rfl)]
theorem wipe_at {σ2 : L2.St} {vs : List Nat} {j : Nat} (e : wipe σ2 vs = wipe σ vs) (h : j ∉ vs) : σ2[j]? = σ[j]? := by
  have a := congrArg (fun l : L2.St => l[j]?) e
  simp only [wipe_get] at a
  rwa [if_neg (fun q => h q.1), if_neg (fun q => h q.1)] at a
theorem evx_lst {tr : TA} {xs : List D} {δ1 : List S} (h : EAX K tr δ xs δ1) (hz : xs.length ≤ sizeLine) : EVX K (tLst tr) δ (.own xs) δ1 := by
  intro He Ge H τo τs σ hl ok Q q
  refine h He Ge H τo τs σ hl ok _ fun vs H1 G ok1 r1 => ⟨by rw [← r1.length]; exact hz, fun p hp => ?_⟩
  exact q _ _ ⟨_, ok1.newOwn hp r1⟩
theorem evx_frz {te : TE} {xs : List D} {δ1 : List S} (h : EVX K te δ (.own xs) δ1) : EVX K te δ (.d (.lst xs)) δ1 := by
  intro He Ge H τo τs σ hl ok Q q
  refine h He Ge H τo τs σ hl ok _ fun v H' ⟨G', ok'⟩ => ?_
  obtain ⟨G2, ok2⟩ := ok'.freeze
  exact q v H' ⟨G2, ok2⟩
theorem evx_lc {ys : List D} {p : Nat → Bool} {f : Nat → D} {F : Nat → List (Str × D)} {q : Option Addr} {C : Addr} {j : Nat} {wi : TI} {v : Nat} {tt : TT} {te : TE} {vs : List Nat} (hi : EI K wi δ ys) (hg : v ∈ vs) (hz : ys.length ≤ sizeLine) (hj : δ[j]? = some (.ob q C (F 0))) (jv : j ∉ vs)
    (k : ∀ i y, ys[i]? = some y → ∃ δ2 δ3, ET K (gName v) ((hide δ vs).set j (.ob q C (F i))) y δ2 ∧ EBX K tt δ2 (p i) δ3 ∧ (p i = false → δ3[j]? = some (.ob q C (F (i + 1)))) ∧ (p i = true → ∃ δ4, EVX K te δ3 (.d (f i)) δ4 ∧ δ4[j]? = some (.ob q C (F (i + 1))))) :
    EVX K (tLc wi (gName v) tt te vs) δ (.own (((List.range ys.length).filter p).map f)) (δ.set j (.ob q C (F ys.length))) := by
  have jd := (List.getElem?_eq_some_iff.mp hj).1
  intro He Ge H τo τs σ hl ok Q qq
  refine hi He Ge H τo τs σ hl ok _ fun J H1 G ok1 jis => ?_
  intro Dp hD
  have okD := (ok1.newOwn (xs := []) (vs := []) hD .nil).ground
  refine ⟨fun i m H2 => i + m = ys.length ∧ OK K He G H2 (some (.ref Dp) :: (τo ++ σ)) (.own (((List.range i).filter p).map f) :: (τs ++ δ.set j (.ob q C (F i)))), ⟨ys.length, by omega, G, by rw [set_id hj]; exact okD⟩, fun i m H2 ⟨em, G2, ok2⟩ => ?_⟩
  obtain ⟨j1, j2, j3⟩ := jis H2 G2 ok2.ge ok2.gh
  rcases Nat.lt_or_ge i ys.length with hlt | hge
  · have ey : ys[i]? = some ys[i] := List.getElem?_eq_getElem hlt
    have tk : List.range (i + 1) = List.range i ++ [i] := List.range_succ
    refine .inr ⟨j1 i hlt, fun H3 => OK K He G H3 (some (.ref Dp) :: (τo ++ σ)) (.own (((List.range (i + 1)).filter p).map f) :: (τs ++ δ.set j (.ob q C (F (i + 1))))), fun H3 k3 => ⟨m - 1, by omega, by omega, k3⟩, fun x H3 hx => ?_⟩
    obtain ⟨G3, y, g1, g2, g3, g4, ey2, rv⟩ := j2 i x H3 hx hlt
    rw [ey] at ey2
    cases ey2
    replace ok2 := ok2.grow g1 g2 g3 (g4.ok ok2.nc.tb)
    obtain ⟨δ2, δ3, kt, kb, kf, ke⟩ := k i _ ey
    have hd : δ.length ≤ σ.length := by have := ok1.len; simp only [List.length_append] at this; omega
    have dl : (δ.set j (.ob q C (F i))).length = δ.length := List.length_set ..
    have okB := OKG.block (vs := vs) (τo := some (.ref Dp) :: τo) (τs := .own (((List.range i).filter p).map f) :: τs) (σ := σ) (δ := δ.set j (.ob q C (F i))) ok2 (by simp [hl])
    rw [dl, hide_ob hj] at okB
    have hA : (some (V.ref Dp) :: τo).length = (S.own (((List.range i).filter p).map f) :: τs).length := by simp [hl]
    have hL0 : ((some (V.ref Dp) :: τo) ++ σ).length = ((S.own (((List.range i).filter p).map f) :: τs) ++ (δ.set j (.ob q C (F i)) ++ List.replicate (σ.length - δ.length) S.un)).length := by
      simp only [List.length_append, List.length_cons, List.length_replicate, List.length_set]; omega
    have hL : ((some (V.ref Dp) :: τo) ++ σ).length = ((S.own (((List.range i).filter p).map f) :: τs) ++ (δ.set j S.un ++ List.replicate (σ.length - δ.length) S.un)).length := by
      simp only [List.length_append, List.length_cons, List.length_replicate, List.length_set]; omega
    have okC := OKG.swapIn okB hA hL0 (s := .ob q C (F i)) (j := j) (by rw [List.getElem?_set_self jd]) (by rw [hide_len]; exact jd) (by rw [wipe_get, if_neg (fun z => jv z.1)])
    rw [List.set_set] at okC
    have ok3 := kt He G H3 G3 _ _ (wipe σ vs) x hL okC rv (fun σ2 H4 => OKG K He G H4 G3 (((some (V.ref Dp) :: τo) ++ σ) ++ σ2) (((S.own (((List.range i).filter p).map f) :: τs) ++ (δ.set j .un ++ List.replicate (σ.length - δ.length) .un)) ++ δ2)) (fun σ2 ok => ok)
    have ew : wipe ((wipe σ vs).set v (some x)) vs = wipe σ vs := by rw [wipe_set hg, wipe_wipe]
    refine ⟨ew, ?_⟩
    change OKG K He G H3 G3 (((some (V.ref Dp) :: τo) ++ σ) ++ (wipe σ vs).set v (some x)) _ at ok3
    generalize (wipe σ vs).set v (some x) = σ2 at *
    · have e2 : σ[j]? = σ2[j]? := (wipe_at ew jv).symm
      refine kb He G H3 _ _ σ2 hL ⟨G3, ok3⟩ _ fun H4 ⟨G4, ok4⟩ => ?_
      cases hp : p i with
      | false =>
        refine iteF ?_
        have e : ((List.range (i + 1)).filter p).map f = ((List.range i).filter p).map f := by rw [tk, List.filter_append]; simp [hp]
        rw [e]
        have ok5 := OKG.swapOut ok4 hA hL (s := .ob q C (F (i + 1))) (j := j) (kf hp) (by rw [List.length_set]; exact jd) e2
        rw [List.set_set] at ok5
        exact ⟨G4, ok5.unblock (by simp only [List.length_append, List.length_cons, List.length_replicate, List.length_set]; omega)⟩
      | true =>
        obtain ⟨δ4, ke, k4⟩ := ke hp
        refine iteT (ke He G H4 _ _ σ2 hL ⟨G4, ok4⟩ _ fun w H5 ⟨G5, ok5⟩ => ?_)
        have ok5' := OKG.swapOut (A := some w :: (some (.ref Dp) :: τo)) (B := .d (f i) :: (S.own (((List.range i).filter p).map f) :: τs)) (σ := σ) (δ := δ.set j .un) ok5 (by simp [hl]) (by simp only [List.length_append, List.length_cons, List.length_replicate, List.length_set]; omega) (s := .ob q C (F (i + 1))) (j := j) k4 (by rw [List.length_set]; exact jd) e2
        rw [List.set_set] at ok5'
        have ok6 := OKG.unblock (τs := .d (f i) :: (S.own (((List.range i).filter p).map f) :: τs)) ok5' (by simp only [List.length_append, List.length_cons, List.length_replicate, List.length_set]; omega)
        obtain ⟨o, eo, pp, acc, e1, _, _, h3, r3⟩ := ok6.sl 1 _ rfl
        cases eo; cases e1
        obtain ⟨w', e2', rw_⟩ := ok6.top
        cases e2'
        have hacc : acc.length ≤ i := by
          rw [← r3.length, List.length_map]
          exact Nat.le_trans (List.length_filter_le _ _) (by rw [List.length_range]; omega)
        refine ⟨acc, h3, by omega, G5, ?_⟩
        have e : ((List.range (i + 1)).filter p).map f = ((List.range i).filter p).map f ++ [f i] := by rw [tk, List.filter_append]; simp [hp]
        rw [e]
        exact (OKG.change (i := 1) ok6 rfl rfl h3 (r3.append (.cons rw_ .nil))).pop
  · refine .inl ⟨j3 i hge, ?_⟩
    have e : i = ys.length := by omega
    rw [e] at ok2
    exact qq _ H2 ⟨G2, ok1.unground ok2⟩
end
section
variable {Hy : PySem.W.Frag → Prop}
def SX.lst (a : SAX Hy) : SX Hy where
  t K W := tLst (a.t K W)
  f δ := (a.f δ).bin fun xs δ1 => if xs.length ≤ sizeLine then .ok (.own xs) δ1 else .no
  ok K hk W δ := by
    cases h : a.f δ with
    | ok xs δ1 =>
      rw [MX.ok_bin]
      by_cases z : xs.length ≤ sizeLine
      · rw [if_pos z]; exact evx_lst (a.okA hk h) z
      · rw [if_neg z]; trivial
    | _ => trivial
@[simp] theorem SX.lst_f (a : SAX Hy) (δ : List S) : (SX.lst a).f δ = (a.f δ).bin fun xs δ1 => if xs.length ≤ sizeLine then .ok (.own xs) δ1 else .no := (rfl)
def frzX (m : MX S) : MX S := match m with | .ok (.own xs) δ1 => .ok (.d (.lst xs)) δ1 | r => r
def SX.frz (e : SX Hy) : SX Hy where
  t := e.t
  f δ := frzX (e.f δ)
  ok K hk W δ := by
    have z := e.ok K hk W δ
    unfold frzX
    split
    · rename_i h; rw [h] at z; exact evx_frz z
    · exact z
@[simp] theorem SX.frz_f (e : SX Hy) (δ : List S) : (SX.frz e).f δ = frzX (e.f δ) := (rfl)
@[simp] theorem frzX_own {xs : List D} {δ : List S} : frzX (.ok (.own xs) δ) = .ok (.d (.lst xs)) δ := (rfl)
def obF (q : Option Addr) (C : Addr) (o : Option D) (m : M (Option Addr × Addr × List (Str × D))) : Option (Option D × List (Str × D)) := match m with
  | .ok p => if p.1 = q ∧ p.2.1 = C then some (o, p.2.2) else none | _ => none
theorem obF_to {q : Option Addr} {C : Addr} {o o' : Option D} {m : M (Option Addr × Addr × List (Str × D))} {fs : List (Str × D)} (h : obF q C o m = some (o', fs)) : o' = o ∧ m = .ok (q, C, fs) := by
  unfold obF at h
  split at h
  · rename_i p
    split at h
    · rename_i z
      obtain ⟨a, b, c⟩ := p
      obtain ⟨z1, z2⟩ := z
      simp only at z1 z2
      subst z1; subst z2
      cases h
      exact ⟨rfl, rfl⟩
    · cases h
  · cases h
/-- one turn of a comprehension that changes the object in slot j -/
def stX (c : STX Hy) (e : SX Hy) (v j : Nat) (δ : List S) (q : Option Addr) (C : Addr) (fs : List (Str × D)) (y : D) : Option (Option D × List (Str × D)) :=
  match c.f ((δ.set j (.ob q C fs)).set v (.d y)) with
  | .ok true δ3 => (match e.f δ3 with | .ok (.d x) δ4 => obF q C (some x) (obj δ4 j) | _ => none)
  | .ok false δ3 => obF q C none (obj δ3 j)
  | _ => none
def lcT (st : List (Str × D) → D → Option (Option D × List (Str × D))) : List (Str × D) → List D → Option (List (Option D × List (Str × D)))
  | _, [] => some []
  | fs, y :: r => match st fs y with | some p => (lcT st p.2 r).map (p :: ·) | none => none
def Fof (fs : List (Str × D)) : List (Option D × List (Str × D)) → Nat → List (Str × D)
  | _, 0 => fs | [], _ + 1 => fs | p :: r, i + 1 => Fof p.2 r i
@[simp] theorem Fof_0 {fs : List (Str × D)} {tr : List (Option D × List (Str × D))} : Fof fs tr 0 = fs := by cases tr <;> rfl
theorem lcT_get {st : List (Str × D) → D → Option (Option D × List (Str × D))} : ∀ {ys : List D} {fs : List (Str × D)} {tr : List (Option D × List (Str × D))}, lcT st fs ys = some tr → tr.length = ys.length ∧ ∀ i y, ys[i]? = some y → ∃ o, st (Fof fs tr i) y = some (o, Fof fs tr (i + 1)) ∧ tr[i]? = some (o, Fof fs tr (i + 1))
  | [], fs, tr, h => by cases h; exact ⟨rfl, fun i y e => by simp at e⟩
  | y :: r, fs, tr, h => by
    unfold lcT at h
    cases h1 : st fs y with
    | none => rw [h1] at h; cases h
    | some p =>
      rw [h1] at h
      simp only [Option.map_eq_some_iff] at h
      obtain ⟨tr', h2, rfl⟩ := h
      obtain ⟨a, b⟩ := lcT_get h2
      refine ⟨by simp [a], fun i z e => ?_⟩
      cases i with
      | zero =>
        simp only [List.getElem?_cons_zero, Option.some.injEq] at e
        subst e
        exact ⟨p.1, by simpa [Fof] using h1, by simp [Fof]⟩
      | succ i =>
        rw [List.getElem?_cons_succ] at e
        obtain ⟨o, b1, b2⟩ := b i z e
        exact ⟨o, b1, by rw [List.getElem?_cons_succ]; exact b2⟩
def trO (tr : List (Option D × List (Str × D))) (i : Nat) : Option D := match tr[i]? with | some p => p.1 | none => none
theorem trO_all : ∀ tr : List (Option D × List (Str × D)), ((List.range tr.length).filter fun i => (trO tr i).isSome).map (fun i => (trO tr i).getD .non) = tr.filterMap (·.1)
  | [] => rfl
  | p :: r => by
    have ih := trO_all r
    rw [List.length_cons, List.range_succ_eq_map, List.filter_cons, List.filter_map, List.filterMap_cons]
    have e : ((fun i => (trO (p :: r) i).isSome) ∘ Nat.succ) = fun i => (trO r i).isSome := funext fun i => by unfold trO; simp [Function.comp]
    have e2 : ((fun i => (trO (p :: r) i).getD D.non) ∘ Nat.succ) = fun i => (trO r i).getD .non := funext fun i => by unfold trO; simp [Function.comp]
    rw [e]
    have e0 : trO (p :: r) 0 = p.1 := rfl
    rw [e0]
    cases h : p.1 with
    | none => simp only [Option.isSome_none]; rw [if_neg (fun z => nomatch z), List.map_map, e2]; exact ih
    | some x => simp only [Option.isSome_some, if_true]; rw [List.map_cons, List.map_map, e2, ih, e0, h]; rfl
def lcXF (c : STX Hy) (e : SX Hy) (v j : Nat) (vs : List Nat) (δ : List S) (p : Option Addr × Addr × List (Str × D)) (ys : List D) : MX S :=
  if v ∈ vs ∧ j ∉ vs ∧ v < δ.length ∧ ys.length ≤ sizeLine then (match lcT (stX c e v j (hide δ vs) p.1 p.2.1) p.2.2 ys with
    | some tr => .ok (.own (tr.filterMap (·.1))) (δ.set j (.ob p.1 p.2.1 (Fof p.2.2 tr ys.length))) | none => .no) else .no
def SX.lc (i : SI Hy) (v : Nat) (c : STX Hy) (e : SX Hy) (vs : List Nat) (j : Nat) : SX Hy where
  t K W := tLc (i.t K W) (gName v) (c.t K W) (e.t K W) vs
  f δ := match obj δ j with | .ok p => (match i.f δ with | .ok ys => lcXF c e v j vs δ p ys | _ => .no) | _ => .no
  ok K hk W δ := by
    cases h : obj δ j with
    | ok p =>
      cases h2 : i.f δ with
      | ok ys =>
        simp only
        unfold lcXF
        by_cases z : v ∈ vs ∧ j ∉ vs ∧ v < δ.length ∧ ys.length ≤ sizeLine
        · rw [if_pos z]
          cases h3 : lcT (stX c e v j (hide δ vs) p.1 p.2.1) p.2.2 ys with
          | none => trivial
          | some tr =>
            obtain ⟨tl, tg⟩ := lcT_get h3
            show EVX K _ δ (.own (tr.filterMap (·.1))) _
            rw [← trO_all tr, tl]
            refine evx_lc (F := Fof p.2.2 tr) (q := p.1) (C := p.2.1) (i.okI hk h2) z.1 z.2.2.2 (by rw [Fof_0]; exact obj_ok h) z.2.1 fun k y ey => ?_
            obtain ⟨o, t1, t2⟩ := tg k y ey
            have oa : trO tr k = o := by unfold trO; rw [t2]
            have et : ET K (gName v) ((hide δ vs).set j (.ob p.1 p.2.1 (Fof p.2.2 tr k))) y (((hide δ vs).set j (.ob p.1 p.2.1 (Fof p.2.2 tr k))).set v (.d y)) := et_name (by rw [List.length_set, hide_len]; exact z.2.2.1)
            unfold stX at t1
            rw [oa]
            cases h4 : c.f (((hide δ vs).set j (.ob p.1 p.2.1 (Fof p.2.2 tr k))).set v (.d y)) with
            | ok b δ3 =>
              rw [h4] at t1
              cases b with
              | true =>
                simp only at t1
                cases h5 : e.f δ3 with
                | ok s δ4 =>
                  rw [h5] at t1
                  cases s with
                  | d x =>
                    simp only at t1
                    obtain ⟨q1, q2⟩ := obF_to t1
                    subst q1
                    exact ⟨_, δ3, et, c.okB hk h4, (fun z => nomatch z), fun _ => ⟨δ4, e.okS hk h5, obj_ok q2⟩⟩
                  | _ => cases t1
                | _ => rw [h5] at t1; cases t1
              | false =>
                simp only at t1
                obtain ⟨q1, q2⟩ := obF_to t1
                subst q1
                exact ⟨_, δ3, et, c.okB hk h4, (fun _ => obj_ok q2), fun z => nomatch z⟩
            | _ => rw [h4] at t1; cases t1
        · rw [if_neg z]; trivial
      | _ => trivial
    | _ => trivial
@[simp] theorem SX.lc_f (i : SI Hy) (v : Nat) (c : STX Hy) (e : SX Hy) (vs : List Nat) (j : Nat) (δ : List S) : (SX.lc i v c e vs j).f δ = match obj δ j with | .ok p => (match i.f δ with | .ok ys => lcXF c e v j vs δ p ys | _ => .no) | _ => .no := (rfl)
end
end Far
namespace Far
open PySem L2
/-- a method of a text, of one argument -/
def RM1 (K : PySem.W.Frag) (r : V → List V → Hp → VK → Prop) (a : Str) (y : D) (s : S) : Prop := ∀ (He Ge H G : Hp) (σ : St) (δ : List S) (u : V), OKG K He Ge H G σ δ → Rp K G y u →
  ∀ Q : VK, (∀ z H', OK K He Ge H' (some z :: σ) (s :: δ) → Q z H') → r (.str a) [u] H Q
theorem ev_m1 {K : PySem.W.Frag} {δ : List S} {ta tb : TE} {a : Str} {y : D} {s : S} {r : V → List V → Hp → VK → Prop} (ha : EV K ta δ (.d (.str a))) (hb : EV K tb δ (.d y)) (hr : RM1 K r a y s) : EV K (tM1 r ta tb) δ s := by
  intro He Ge H τo τs σ hl ok Q q
  refine ha He Ge H τo τs σ hl ok _ fun v H1 ok1 => ?_
  have hv : v = .str a := by
    obtain ⟨G, ok1⟩ := ok1
    obtain ⟨_, e1, r1⟩ := ok1.top
    cases e1; cases r1; rfl
  subst hv
  refine ⟨⟨a, rfl⟩, hb He Ge H1 (some _ :: τo) (.d (.str a) :: τs) σ (by simp [hl]) ok1 _ fun u H2 ok2 => ?_⟩
  obtain ⟨G, ok2⟩ := ok2
  obtain ⟨_, e1, r1⟩ := ok2.top
  cases e1
  exact hr He Ge H2 G _ _ u ok2.pop.pop r1 Q q
structure OM where
  r : PySem.W.Frag → V → List V → Hp → VK → Prop
  f : Str → D → Option S
  ok : ∀ K a y s, f a y = some s → RM1 K (r K) a y s
section
variable {Hy : PySem.W.Frag → Prop}
def omF (o : OM) (x y : D) : M S := match x with | .str a => .of (o.f a y) | _ => .no
def SE.m1 (o : OM) (a b : SE Hy) : SE Hy where
  t K W := tM1 (o.r K) (a.t K W) (b.t K W)
  f δ := (a.fd δ).bin fun x => (b.fd δ).bin fun y => omF o x y
  ok K hk W δ := by
    cases h : a.fd δ with
    | ok x =>
      rw [M.ok_bin]
      cases h2 : b.fd δ with
      | ok y =>
        rw [M.ok_bin]
        cases x with
        | str z =>
          show EVF K W _ δ (.of (o.f z y))
          cases h3 : o.f z y with
          | none => trivial
          | some s => exact ev_m1 (a.okD hk h) (b.okD hk h2) (o.ok K z y s h3)
        | _ => trivial
      | _ => trivial
    | _ => trivial
end
def chV (x : Str) : List V := x.cps.toList.map fun c => V.str ⟨#[c]⟩
def chD (x : Str) : List D := x.cps.toList.map fun c => D.str ⟨#[c]⟩
theorem jis_str {G : Hp} {x : Str} : JIs G (Its x) (chV x) := fun H e => by
  have hl : (chV x).length = x.cps.size := by unfold chV; rw [List.length_map, Array.length_toList]
  refine ⟨fun i hi => by show i < x.cps.size; omega, fun i v H' ⟨h1, c, h2, h3⟩ => ⟨h1, fun hi => ?_⟩, fun i hi => by show x.cps.size ≤ i; omega⟩
  unfold chV
  rw [List.getElem?_map, Array.getElem?_toList, h2, h3]; rfl
theorem rpL_ch (K : PySem.W.Frag) (G : Hp) : ∀ l : List Nat, RpL K G (l.map fun c => D.str ⟨#[c]⟩) (l.map fun c => V.str ⟨#[c]⟩)
  | [] => .nil
  | _ :: r => .cons .str (rpL_ch K G r)
theorem ei_str {K : PySem.W.Frag} {δ : List S} {te : TE} {x : Str} (h : EV K te δ (.d (.str x))) : EI K (iStr te) δ (chD x) := by
  intro He Ge H τo τs σ hl ok R q
  refine h He Ge H τo τs σ hl ok _ fun v H1 ⟨G, ok1⟩ => ?_
  obtain ⟨_, e1, r1⟩ := ok1.top
  cases e1; cases r1
  exact ⟨x, rfl, q _ H1 G ok1.pop (jig_of (rpL_ch K G _) jis_str)⟩
def SI.str {Hy : PySem.W.Frag → Prop} (e : SE Hy) : SI Hy where
  t K W := iStr (e.t K W)
  f δ := (e.fd δ).bin fun x => match x with | .str z => .ok (chD z) | _ => .no
  ok K hk W δ := by
    cases h : e.fd δ with
    | ok x =>
      rw [M.ok_bin]
      cases x with
      | str xs => exact ei_str (e.okD hk h)
      | _ => trivial
    | _ => trivial
def strIt (x : D) : M (List D) := match x with | .str z => .ok (chD z) | _ => .no
@[simp] theorem SI.str_f {Hy : PySem.W.Frag → Prop} (e : SE Hy) (δ : List S) : (SI.str e).f δ = (e.fd δ).bin strIt := (rfl)
@[simp] theorem strIt_s {z : Str} : strIt (.str z) = .ok (chD z) := (rfl)
section
variable {Hy : PySem.W.Frag → Prop}
@[simp] theorem SE.m1_fs (o : OM) (a b : SE Hy) (δ : List S) : (SE.m1 o a b).f δ = (a.fd δ).bin fun x => (b.fd δ).bin fun y => omF o x y := (rfl)
@[simp] theorem SE.m1_fd (o : OM) (a b : SE Hy) (δ : List S) : (SE.m1 o a b).fd δ = ((a.fd δ).bin fun x => (b.fd δ).bin fun y => omF o x y).bind toD := (rfl)
end
section
variable {X : Cx} {o e : Expr} {to te : TE}
end
end Far
namespace Far
open PySem L2
end Far
namespace Far
open PySem L2 PySem.Spec PyProof.Rows
section
variable {X : Cx} {e : Expr} {es : List Expr} {te : TE} {ta : TA} {p1 p2 pos : Pos}
end
section
variable {P : Program} {w : World} {K : PySem.W.Frag} {mg : Str → Option Value} {base : Heap}
end
section
variable {K : PySem.W.Frag} {δ : List S} {te : TE} {x : D} {C : Addr} {f : Str} {W : WX} {N B Ct : List S → Prop} {Rt : S → List S → Prop} {Xc : List S → Addr → List (Str × D) → Prop}
end
section
variable {Hy : PySem.W.Frag → Prop}
end
end Far
namespace PySem.W
open PySem PySem.Spec PySem.Calls PyProof.Rows
section
variable {prog : Program} {w : World} {A : Around} {E : Value → Shared → Prop} {s : Shared} {K : Frag} {x D : Addr} {ox od : Obj}
end
end PySem.W
namespace Far
open PySem L2 PySem.Spec PyProof.Rows
section
variable {Hy : PySem.W.Frag → Prop}
end
end Far
namespace Far
open PySem L2 PySem.Spec PyProof.Rows
section
variable {Hy : PySem.W.Frag → Prop}
end
section
variable {X : Cx}
end
section
variable {K : PySem.W.Frag} {δ : List S} {te : TE}
variable {Hy : PySem.W.Frag → Prop}
end
end Far
namespace Far
open PySem L2 PySem.Spec PyProof.Rows
section
variable {X : Cx}
end
section
variable {K : PySem.W.Frag} {δ : List S} {te : TE} {x : D} {C : Addr} {f : Str}
end
section
variable {Hy : PySem.W.Frag → Prop}
end
end Far
namespace Far
open PySem L2 PySem.Spec PyProof.Rows
section
variable {K : PySem.W.Frag} {δ : List S}
variable {Hy : PySem.W.Frag → Prop}
end
end Far
namespace Far
open PySem L2 PySem.Spec PyProof.Rows
section
variable {X : Cx} {pins : List (Addr × Obj)} {σ : L2.St} {H : Hp} {s : Shared}
end
section
variable {X : Cx} {pins : List (Addr × Obj)} {σ : L2.St} {s : Shared} {sp : Sp} {E : XK} {f kS a : Addr} {fd : FuncData} {ps : List Str} {k : Nat} {E0 : Value → Shared → Prop}
end
end Far
namespace Far
open PySem L2 PyProof.Rows
section
variable {α : Type}
end
section
variable {α β : Type} {R : α → β → Prop}
end
section
variable {K : PySem.W.Frag} {δ : List S} {F : List D → M S} {ta : TA} {s : S} {E : XK}
end
section
variable {K : PySem.W.Frag} {δ : List S} {F : List D → M S} {ta : TA} {s : S} {E : XK}
variable {Hy : PySem.W.Frag → Prop}
end
end Far
namespace Far
open PySem L2
def rInsert : V → List V → Hp → VK → Prop := fun x vs H Q => ∃ (l : Addr) (xs : List V) (i : Int) (y : V), x = .ref l ∧ vs = [.int i, y] ∧ H l = some (.lst xs) ∧ xs.length < sizeLine ∧ 0 ≤ i ∧ i < 2 ^ 63 ∧
    Q .non (upd H l (.lst (xs.take i.toNat ++ [y] ++ xs.drop i.toNat)))
theorem RpL.takeL {K : PySem.W.Frag} {G : Hp} : ∀ {xs : List D} {vs : List V} (n : Nat), RpL K G xs vs → RpL K G (xs.take n) (vs.take n)
  | _, _, 0, _ => by simp only [List.take_zero]; exact .nil
  | _, _, n + 1, .nil => by simp only [List.take_nil]; exact .nil
  | _, _, n + 1, .cons h r => by rw [List.take_succ_cons, List.take_succ_cons]; exact .cons h (r.takeL n)
theorem RpL.dropL {K : PySem.W.Frag} {G : Hp} : ∀ {xs : List D} {vs : List V} (n : Nat), RpL K G xs vs → RpL K G (xs.drop n) (vs.drop n)
  | _, _, 0, h => h
  | _, _, n + 1, .nil => by simp only [List.drop_nil]; exact .nil
  | _, _, n + 1, .cons h r => by rw [List.drop_succ_cons, List.drop_succ_cons]; exact r.dropL n
section
variable {K : PySem.W.Frag} {E : WX} {δ : List S} {ta : TA} {xs : List D} {j : Int} {y : D} {N B C : List S → Prop} {R : S → List S → Prop} {X : List S → Addr → List (Str × D) → Prop}
theorem sd_insert {i : Nat} (hi : δ[i]? = some (.own xs)) (h : EA K ta δ [.int j, y]) (hz : xs.length < sizeLine) (h0 : 0 ≤ j) (h1 : j < 2 ^ 63) (n : N (δ.set i (.own (xs.take j.toNat ++ [y] ++ xs.drop j.toNat)))) : SD K E (tDrop (tBM K "list" rInsert (tVar i) ta)) δ N R B C X := by
  intro He Ge H σ Dn ok nx r bk ct xx
  obtain ⟨G, okk⟩ := id ok
  obtain ⟨o, eo, p, vs, rfl, _, _, h3, rv⟩ := okk.sl i _ hi
  refine ⟨_, eo, .inl ⟨rfl, _, SqL.of h3⟩, ?_⟩
  refine h He Ge H [] [] σ rfl ok _ fun us H' G' ok' ru => ?_
  have ok' : OKG K He Ge H' G' σ δ := ok'
  obtain ⟨o2, eo2, p2, vs2, e2, k1, k2, k3, rv2⟩ := ok'.sl i (.own xs) hi
  rw [eo] at eo2
  cases eo2
  cases e2
  cases ru with
  | cons r1 ru =>
    cases r1
    cases ru with
    | cons ry ru =>
      cases ru
      refine ⟨p, vs2, j, _, rfl, rfl, k3, by rw [← rv2.length]; exact hz, h0, h1, ?_⟩
      exact nx _ _ _ ⟨G', OKG.change ok' hi eo k3 (((rv2.takeL j.toNat).append (.cons ry .nil)).append (rv2.dropL j.toNat))⟩ n
end
section
variable {Hy : PySem.W.Frag → Prop}
def insF (δ : List S) (i : Nat) (xs ys : List D) : Fl := match ys with
  | [.int j, y] => if xs.length < sizeLine ∧ 0 ≤ j ∧ j < 2 ^ 63 then .nx (δ.set i (.own (xs.take j.toNat ++ [y] ++ xs.drop j.toNat))) else .no
  | _ => .no
/-- xs.insert(j, y) -/
def SS.ins (i : Nat) (a : SA Hy) : SS Hy where
  t K W := tDrop (tBM K "list" rInsert (tVar i) (a.t K W))
  f δ := Fl.exn (ow δ i) fun xs => Fl.exn (a.f δ) fun ys => insF δ i xs ys
  ok K hk W δ := by
    cases h : ow δ i with
    | ok xs =>
      rw [Fl.ok_exn]
      cases h2 : a.f δ with
      | ok ys =>
        rw [Fl.ok_exn]
        unfold insF
        split
        · split
          · rename_i z
            exact sd_insert (ow_ok h) (a.okA hk h2) z.1 z.2.1 z.2.2 rfl
          · trivial
        · trivial
      | _ => trivial
    | _ => trivial
@[simp] theorem SS.ins_f (i : Nat) (a : SA Hy) (δ : List S) : (SS.ins i a).f δ = Fl.exn (ow δ i) fun xs => Fl.exn (a.f δ) fun ys => insF δ i xs ys := (rfl)
end
end Far
namespace Far
open PySem L2
section
variable {K : PySem.W.Frag}
/-- the parts of a display, each with its slot -/
def EAS (K : PySem.W.Frag) (ta : TA) (δ ss : List S) : Prop := ∀ (He Ge H : Hp) (τo : St) (τs : List S) (σ : St), τo.length = τs.length → OK K He Ge H (τo ++ σ) (τs ++ δ) →
  ∀ Q : List V → Hp → Prop, (∀ vs H', vs.length = ss.length → OK K He Ge H' ((vs.map some).reverse ++ (τo ++ σ)) (ss.reverse ++ (τs ++ δ)) → Q vs H') → ta σ H Q
theorem eas_nil {δ : List S} : EAS K tNil δ [] := fun He Ge H τo τs σ hl ok Q q => q [] H rfl ok
theorem eas_cons {te : TE} {tr : TA} {δ ss : List S} {s : S} (h : EV K te δ s) (hr : EAS K tr δ ss) : EAS K (tCons te tr) δ (s :: ss) := by
  intro He Ge H τo τs σ hl ok Q q
  refine h He Ge H τo τs σ hl ok _ fun v H1 ok1 => ?_
  refine hr He Ge H1 (some v :: τo) (s :: τs) σ (by simp [hl]) ok1 _ fun vs H2 hv ok2 => ?_
  exact q (v :: vs) H2 (by simp [hv]) (by simpa using ok2)
theorem OKG.drop {He Ge H G : Hp} : ∀ {τo : St} {τs : List S} {σ : St} {δ : List S}, τo.length = τs.length → OKG K He Ge H G (τo ++ σ) (τs ++ δ) → OKG K He Ge H G σ δ
  | [], [], _, _, _, h => h
  | _ :: _, _ :: _, _, _, l, h => OKG.drop (Nat.succ.inj l) (OKG.pop h)
/-- slots that none of these changed: the same value, the same data; or data without a list -/
def Fr (σ1 : St) (δ1 : List S) (σ' : St) (δ' : List S) : Prop := ∀ j : Nat, (σ'[j]? = σ1[j]? ∧ δ'[j]? = δ1[j]?) ∨ ∃ x, δ'[j]? = some (.d x) ∧ rfo [] false x = true
theorem Fr.refl {σ : St} {δ : List S} : Fr σ δ σ δ := fun _ => .inl ⟨rfl, rfl⟩
theorem Fr.trans {σ1 σ2 σ3 : St} {δ1 δ2 δ3 : List S} (a : Fr σ1 δ1 σ2 δ2) (b : Fr σ2 δ2 σ3 δ3) : Fr σ1 δ1 σ3 δ3 := fun j => by
  rcases b j with ⟨e1, e2⟩ | h
  · rcases a j with ⟨e3, e4⟩ | ⟨x, e3, e4⟩
    · exact .inl ⟨e1.trans e3, e2.trans e4⟩
    · exact .inr ⟨x, e2.trans e3, e4⟩
  · exact .inr h
def SDr (K : PySem.W.Frag) (E : WX) (t : TS) (δ : List S) (N : List S → Prop) (R : S → List S → Prop) (B C : List S → Prop) (X : List S → Addr → List (Str × D) → Prop) : Prop := ∀ (He Ge H : Hp) (σ : St) (Dn : Ends), OK K He Ge H σ δ →
  (∀ δ' σ' H', OK K He Ge H' σ' δ' → Fr σ δ σ' δ' → N δ' → Dn.nx σ' H') → (∀ v s σ' δ' H', OKr K He Ge H' v σ' s δ' → R s δ' → Dn.rt v H') →
  (∀ δ' σ' H', OK K He Ge H' σ' δ' → B δ' → Dn.bk σ' H') → (∀ δ' σ' H', OK K He Ge H' σ' δ' → C δ' → Dn.ct σ' H') →
  (∀ c fs cls d G' σ' δ' H', OKG K He Ge H' G' σ' δ' → XOk K G' H' c fs cls d → X δ' c fs → E cls d σ' H') → t Dn σ H
def SMR (K : PySem.W.Frag) (W : WX) (t : TS) (δ : List S) (r : Fl) : Prop := SDr K W t δ (fun δ' => r = .nx δ') (fun s δ' => r = .rt s ∨ r = .rto s δ') (fun δ' => r = .bk δ') (fun δ' => r = .ct δ') (fun δ' c fs => r = .ex δ' c fs)
def SMF (K : PySem.W.Frag) (W : WX) (t : TS) (δ : List S) : Fl → Prop
  | .no => True | r => SMR K W t δ r
theorem smf_of {W : WX} {t : TS} {δ : List S} {r : Fl} (h : r ≠ .no → SMR K W t δ r) : SMF K W t δ r := by
  cases r with
  | no => trivial
  | _ => exact h (fun z => nomatch z)
theorem smf_to {W : WX} {t : TS} {δ : List S} {r : Fl} (h : SMF K W t δ r) (n : r ≠ .no) : SMR K W t δ r := by
  cases r with
  | no => exact (n rfl).elim
  | _ => exact h
/-- what never goes on -/
theorem smr_of {W : WX} {t : TS} {δ : List S} {r : Fl} (h : SDR K W t δ r) (n : ∀ δ', r ≠ .nx δ') : SMR K W t δ r := fun He Ge H σ Dn ok nx rt bk ct xx =>
  h He Ge H σ Dn ok (fun δ' σ' H' _ e => (n δ' e).elim) rt bk ct xx
end
variable {Hy : PySem.W.Frag → Prop}
/-- statements that are told with what they leave as it was -/
structure SM (Hy : PySem.W.Frag → Prop) where
  t : PySem.W.Frag → WX → TS
  f : List S → Fl
  ok : ∀ K, Hy K → ∀ W δ, SMF K W (t K W) δ (f δ)
def SM.skip : SM Hy where
  t _ _ := tNext
  f δ := .nx δ
  ok K hk W δ := fun He Ge H σ Dn ok nx rt bk ct xx => nx δ σ H ok .refl rfl
def SM.set (i : Nat) (e : SE Hy) : SM Hy where
  t K W := tAsg (e.t K W) (gName i)
  f δ := Fl.exp (e.fd δ) δ fun x => if i < δ.length ∧ rfo [] false x = true then .nx (δ.set i (.d x)) else .no
  ok K hk W δ := by
    cases h : e.fd δ with
    | no => trivial
    | ex c fs => exact smr_of (sd_asgX (e.exD hk h) rfl) fun _ z => nomatch z
    | ok x =>
      rw [Fl.ok_exp]
      by_cases z : i < δ.length ∧ rfo [] false x = true
      · rw [if_pos z]
        intro He Ge H σ Dn ok nx rt bk ct xx
        refine ev0 (e.okD hk h) ok fun v H' ⟨G', ok'⟩ => ?_
        refine nx _ _ _ ⟨G', ok'.store z.1⟩ (fun j => ?_) rfl
        by_cases q : i = j
        · subst q
          exact .inr ⟨x, by rw [List.getElem?_set_self z.1], z.2⟩
        · exact .inl ⟨by rw [List.getElem?_set_ne q], by rw [List.getElem?_set_ne q]⟩
      · rw [if_neg z]; trivial
def SM.seq (a b : SM Hy) : SM Hy where
  t K W := tSeq (a.t K W) (b.t K W)
  f δ := (a.f δ).next b.f
  ok K hk W δ := by
    refine smf_of fun n => ?_
    have na : a.f δ ≠ .no := fun z => n (by rw [z]; rfl)
    have ha := smf_to (a.ok K hk W δ) na
    intro He Ge H σ Dn ok nx rt bk ct xx
    refine ha He Ge H σ _ ok (fun δ' σ' H' ok' fr e => ?_) (fun v s σ' δ' H' ok' e => rt v s σ' δ' H' ok' ?_) (fun δ' σ' H' ok' e => bk δ' σ' H' ok' (by rw [e]; rfl)) (fun δ' σ' H' ok' e => ct δ' σ' H' ok' (by rw [e]; rfl)) (fun c fs cls d G' σ' δ' H' ok' k e => xx c fs cls d G' σ' δ' H' ok' k (by rw [e]; rfl))
    · rw [e] at n nx rt bk ct xx
      exact smf_to (b.ok K hk W δ') n He Ge H' σ' Dn ok' (fun δ2 σ2 H2 ok2 fr2 e2 => nx δ2 σ2 H2 ok2 (fr.trans fr2) e2) rt bk ct xx
    · rcases e with e | e
      · rw [e]; exact .inl rfl
      · rw [e]; exact .inr rfl
def SM.ite (c : ST Hy) (a b : SM Hy) : SM Hy where
  t K W := tIfS (c.t K W) (a.t K W) (b.t K W)
  f δ := Fl.exn (c.f δ) fun k => if k = true then a.f δ else b.f δ
  ok K hk W δ := by
    cases h : c.f δ with
    | ok k =>
      rw [Fl.ok_exn]
      refine smf_of fun n => ?_
      intro He Ge H σ Dn ok nx rt bk ct xx
      refine eb0 (c.okB hk h) ok fun H' ok' => ?_
      cases k with
      | true =>
        rw [if_pos rfl] at n nx rt bk ct xx
        exact iteT (smf_to (a.ok K hk W δ) n He Ge H' σ Dn ok' nx rt bk ct xx)
      | false =>
        rw [if_neg (fun z => nomatch z)] at n nx rt bk ct xx
        exact iteF (smf_to (b.ok K hk W δ) n He Ge H' σ Dn ok' nx rt bk ct xx)
    | _ => trivial
/-- a statement behind which nothing goes on -/
def SM.out (s : SS Hy) : SM Hy where
  t K W := s.t K W
  f δ := match s.f δ with | .nx _ => .no | r => r
  ok K hk W δ := by
    have h := s.ok K hk W δ
    cases e : s.f δ with
    | no => trivial
    | nx δ' => trivial
    | _ => rw [e] at h; exact smr_of h fun _ z => nomatch z
structure SN (Hy : PySem.W.Frag → Prop) where
  t : PySem.W.Frag → WX → TA
  f : List S → M (List S)
  ok : ∀ K, Hy K → ∀ W δ ss, f δ = .ok ss → EAS K (t K W) δ ss
def SN.nil : SN Hy := ⟨fun _ _ => tNil, fun _ => .ok [], fun K hk W δ ss h => by cases h; exact eas_nil⟩
def SN.cons (e : SE Hy) (r : SN Hy) : SN Hy where
  t K W := tCons (e.t K W) (r.t K W)
  f δ := (e.f δ).bin fun s => (r.f δ).bin fun ss => .ok (s :: ss)
  ok K hk W δ ss h := by
    cases h1 : e.f δ with
    | ok s =>
      rw [h1, M.ok_bin] at h
      cases h2 : r.f δ with
      | ok us => rw [h2, M.ok_bin] at h; cases h; exact eas_cons (e.okS hk h1) (r.ok K hk W δ us h2)
      | no => rw [h2] at h; cases h
      | ex c fs => rw [h2] at h; cases h
    | no => rw [h1] at h; cases h
    | ex c fs => rw [h1] at h; cases h
section
variable {K : PySem.W.Frag}
def MUJ (K : PySem.W.Frag) (t : TS) (i : Nat) (gs δ gs' δ' : List S) : Prop := ∀ (He Ge H G : Hp) (vs : List V) (σ : St) (q : Addr) (Dn : Ends), vs.length = gs.length → OKG K He Ge H G ((vs.map some).reverse ++ σ) (gs.reverse ++ δ) →
  σ[i]? = some (some (.ref q)) → G q = some (.lst vs) → (∀ H' G' σ', OKG K He Ge H' G' ((vs.map some).reverse ++ σ') (gs'.reverse ++ δ') → σ'[i]? = some (some (.ref q)) → G' q = some (.lst vs) → gs'.length = gs.length → Dn.nx σ' H') → t Dn σ H
theorem rev_set {α : Type} {l : List α} {k : Nat} {s : α} (h : k < l.length) : (l.set k s).reverse = l.reverse.set (l.length - 1 - k) s := by
  apply List.ext_getElem?
  intro i
  by_cases hi : i < l.length
  · rw [List.getElem?_reverse (by rw [List.length_set]; exact hi), List.length_set]
    by_cases e : k = l.length - 1 - i
    · have e2 : l.length - 1 - k = i := by omega
      rw [← e, List.getElem?_set_self h, e2, List.getElem?_set_self (by rw [List.length_reverse]; exact hi)]
    · rw [List.getElem?_set_ne e, List.getElem?_set_ne (by omega), List.getElem?_reverse hi]
  · rw [List.getElem?_eq_none (by rw [List.length_reverse, List.length_set]; omega), List.getElem?_eq_none (by rw [List.length_set, List.length_reverse]; omega)]
theorem gh_at {gs δ : List S} {vs : List V} {σ : St} {k : Nat} {s : S} (hv : vs.length = gs.length) (h : gs[k]? = some s) : ∃ v, vs[k]? = some v ∧ (gs.reverse ++ δ)[gs.length - 1 - k]? = some s ∧ ((vs.map some).reverse ++ σ)[gs.length - 1 - k]? = some (some v) := by
  have hk : k < gs.length := (List.getElem?_eq_some_iff.mp h).1
  have hkv : k < vs.length := by omega
  refine ⟨vs[k], List.getElem?_eq_getElem hkv, ?_, ?_⟩
  · rw [List.getElem?_append_left (by rw [List.length_reverse]; omega), List.getElem?_reverse (by omega), show gs.length - 1 - (gs.length - 1 - k) = k by omega, h]
  · rw [List.getElem?_append_left (by rw [List.length_reverse, List.length_map]; omega), List.getElem?_reverse (by rw [List.length_map]; omega), List.length_map, show vs.length - 1 - (gs.length - 1 - k) = k by omega, List.getElem?_map, List.getElem?_eq_getElem hkv]; rfl
/-- the list at k becomes another one -/
theorem gh_change {He Ge H G : Hp} {gs δ : List S} {vs : List V} {σ : St} {k : Nat} {xs ys : List D} {p : Addr} {ws us : List V} (ok : OKG K He Ge H G ((vs.map some).reverse ++ σ) (gs.reverse ++ δ)) (hv : vs.length = gs.length) (h : gs[k]? = some (.own xs)) (hp : vs[k]? = some (.ref p))
    (hl : H p = some (.lst ws)) (r : RpL K G ys us) : OKG K He Ge (upd H p (.lst us)) G ((vs.map some).reverse ++ σ) ((gs.set k (.own ys)).reverse ++ δ) := by
  obtain ⟨v, e1, e2, e3⟩ := gh_at (δ := δ) (σ := σ) hv h
  rw [hp] at e1; cases e1
  have hk : k < gs.length := (List.getElem?_eq_some_iff.mp h).1
  have := ok.change e2 e3 hl r
  rw [List.set_append_left _ _ (by rw [List.length_reverse]; omega)] at this
  rw [rev_set hk]; exact this
theorem gh_own {He Ge H G : Hp} {gs δ : List S} {vs : List V} {σ : St} {k : Nat} {xs : List D} (ok : OKG K He Ge H G ((vs.map some).reverse ++ σ) (gs.reverse ++ δ)) (hv : vs.length = gs.length) (h : gs[k]? = some (.own xs)) : ∃ p ws, vs[k]? = some (.ref p) ∧ H p = some (.lst ws) ∧ RpL K G xs ws ∧ G p = none := by
  obtain ⟨v, e1, e2, e3⟩ := gh_at (δ := δ) (σ := σ) hv h
  obtain ⟨o, eo, p, ws, rfl, k1, k2, k3, r⟩ := ok.sl _ _ e2
  rw [e3] at eo; cases eo
  exact ⟨p, ws, e1, k3, r, k2⟩
theorem atI_nat {vs : List V} {k : Nat} {v : V} (h : vs[k]? = some v) : L2.atI vs (k : Int) = some v := by
  have hk : k < vs.length := (List.getElem?_eq_some_iff.mp h).1
  unfold L2.atI L2.ixN
  simp only [Int.natCast_nonneg]
  simp [hk, h]
  exact (List.getElem?_eq_some_iff.mp h).2
end
structure MU (Hy : PySem.W.Frag → Prop) (i : Nat) where
  t : PySem.W.Frag → WX → TS
  f : List S → List S → Option (List S × List S)
  ok : ∀ K, Hy K → ∀ W gs δ gs' δ', f gs δ = some (gs', δ') → MUJ K (t K W) i gs δ gs' δ'
def MU.seq {i : Nat} (a b : MU Hy i) : MU Hy i where
  t K W := tSeq (a.t K W) (b.t K W)
  f gs δ := (a.f gs δ).bind fun r => b.f r.1 r.2
  ok K hk W gs δ gs' δ' h := by
    obtain ⟨⟨g1, d1⟩, h1, h2⟩ := Option.bind_eq_some_iff.mp h
    intro He Ge H G vs σ q Dn hv ok hq hG nx
    exact a.ok K hk W gs δ g1 d1 h1 He Ge H G vs σ q _ hv ok hq hG fun H' G' σ' ok' hq' hG' hl => b.ok K hk W g1 d1 gs' δ' h2 He Ge H' G' vs σ' q Dn (hv.trans hl.symm) ok' hq' hG' fun H2 G2 σ2 ok2 hq2 hG2 hl2 => nx H2 G2 σ2 ok2 hq2 hG2 (hl2.trans hl)
/-- h[k].append(e) -/
def MU.app {i : Nat} (k : Nat) (e : SE Hy) : MU Hy i where
  t K W := tDrop (tBM K "list" rAppend (tOp (rIx K) (tVar i) (tC (.int (k : Int)))) (tCons (e.t K W) tNil))
  f gs δ := match gs[k]?, e.fd δ with | some (.own xs), .ok x => if xs.length < sizeLine then some (gs.set k (.own (xs ++ [x])), δ) else none | _, _ => none
  ok K hk W gs δ gs' δ' h := by
    split at h
    · rename_i xs x h1 h2
      split at h
      · rename_i hz
        cases h
        intro He Ge H G vs σ q Dn hv ok hq hG nx
        obtain ⟨p, ws, ep, hp, r, _⟩ := gh_own ok hv h1
        refine ⟨.ref q, hq, .inl ⟨q, vs, (k : Int), .ref p, rfl, rfl, .inl (.inl (ok.gh _ _ hG)), atI_nat ep, ?_⟩⟩
        have hp' : vs[k]? = some (.ref p) := ep
        refine ⟨.inl ⟨rfl, _, SqL.of hp⟩, ?_⟩
        have hl : ((vs.map some).reverse : St).length = gs.reverse.length := by rw [List.length_reverse, List.length_map, List.length_reverse]; exact hv
        refine (e.okD hk h2) He G H _ _ σ hl ⟨G, ok.ground⟩ _ fun v H' ⟨G', ok'⟩ => ?_
        have rv := ok'.top
        obtain ⟨_, ev, rv⟩ := rv
        cases ev
        have ok2 := ok.unground ok'.pop
        obtain ⟨p2, ws2, ep2, hp2, r2, _⟩ := gh_own ok2 hv h1
        rw [hp'] at ep2; cases ep2
        refine ⟨p, ws2, v, rfl, rfl, hp2, by rw [← r2.length]; exact hz, ?_⟩
        exact nx _ _ _ (gh_change ok2 hv h1 hp' hp2 (r2.append (.cons rv .nil))) hq (ok'.ge _ _ hG) (List.length_set ..)
      · cases h
    · cases h
section
variable {K : PySem.W.Frag}
end
@[simp] theorem SN.nil_f (δ : List S) : (SN.nil : SN Hy).f δ = .ok [] := (rfl)
@[simp] theorem SN.cons_f (e : SE Hy) (r : SN Hy) (δ : List S) : (SN.cons e r).f δ = (e.f δ).bin fun s => (r.f δ).bin fun ss => .ok (s :: ss) := (rfl)
@[simp] theorem SM.skip_f (δ : List S) : (SM.skip : SM Hy).f δ = .nx δ := (rfl)
@[simp] theorem SM.set_f (i : Nat) (e : SE Hy) (δ : List S) : (SM.set i e).f δ = Fl.exp (e.fd δ) δ fun x => if i < δ.length ∧ rfo [] false x = true then .nx (δ.set i (.d x)) else .no := (rfl)
@[simp] theorem SM.seq_f (a b : SM Hy) (δ : List S) : (SM.seq a b).f δ = (a.f δ).next b.f := (rfl)
@[simp] theorem SM.ite_f (c : ST Hy) (a b : SM Hy) (δ : List S) : (SM.ite c a b).f δ = Fl.exn (c.f δ) fun k => if k = true then a.f δ else b.f δ := (rfl)
def outF : Fl → Fl | .nx _ => .no | r => r
@[simp] theorem outF_rt (s : S) : outF (.rt s) = .rt s := (rfl)
@[simp] theorem outF_ct (δ : List S) : outF (.ct δ) = .ct δ := (rfl)
@[simp] theorem SM.out_f (s : SS Hy) (δ : List S) : (SM.out s).f δ = outF (s.f δ) := (rfl)
@[simp] theorem MU.seq_f {i : Nat} (a b : MU Hy i) (gs δ : List S) : (MU.seq a b).f gs δ = (a.f gs δ).bind fun r => b.f r.1 r.2 := (rfl)
def muApp (k : Nat) (gs δ : List S) : Option S → M D → Option (List S × List S)
  | some (.own xs), .ok x => if xs.length < sizeLine then some (gs.set k (.own (xs ++ [x])), δ) else none
  | _, _ => none
@[simp] theorem MU.app_f {i : Nat} (k : Nat) (e : SE Hy) (gs δ : List S) : (MU.app k e : MU Hy i).f gs δ = muApp k gs δ gs[k]? (e.fd δ) := (rfl)
@[simp] theorem muApp_own {k : Nat} {gs δ : List S} {xs : List D} {x : D} (h : xs.length < 16777216) : muApp k gs δ (some (.own xs)) (.ok x) = some (gs.set k (.own (xs ++ [x])), δ) := if_pos (by rw [sizeLine_eq]; exact h)
@[simp] theorem owned_un : owned .un = false := (rfl)
@[simp] theorem owned_dd {x : D} : owned (.d x) = false := (rfl)
end Far
namespace Far
open PySem L2 PySem.Spec PyProof.Rows
def GoodTx (w : World) (e : Int × Value) : Prop := ∃ k tk, e.2 = Value.str k tk ∧ e.1 = hashStr w k
/-- the set of texts at a, T what is in it, m how many; one can go through it -/
def SetTx (P : Program) (w : World) (h : Heap) (a : Addr) (T : Str → Bool) (m : Nat) : Prop :=
  ∃ ob xs ep tb, h.get? a = some ob ∧ ob.ExactSet ∧ ob.data = .set xs ep tb ∧ (∀ e ∈ xs.toList, GoodTx w e) ∧ (xs.toList.map fun e => strOf e.2).Nodup ∧ (∀ k, T k = true ↔ k ∈ xs.toList.map fun e => strOf e.2) ∧
    xs.size < scanBound ∧ tb.fits xs.size = true ∧ xs.size = m ∧ Ris tb.place.toList ∧ (w.params.followText "set-order" = true ∨ tb.led = true)
section
variable {P : Program} {w : World} {h h' : Heap} {a : Addr} {T : Str → Bool} {m : Nat}
theorem SetTx.at (R : SetTx P w h a T m) (k : ∀ o, h.get? a = some o → h'.get? a = some o) : SetTx P w h' a T m := by
  obtain ⟨ob, xs, ep, tb, z, r⟩ := R; exact ⟨ob, xs, ep, tb, k ob z, r⟩
theorem SetTx.congr {T' : Str → Bool} (R : SetTx P w h a T m) (e : ∀ k, T' k = T k) : SetTx P w h a T' m := by
  have z : T' = T := funext e
  exact z ▸ R
end
section
variable {P : Program} {w : World} {A : Around} {E : Value → Shared → Prop} {s : Shared} {a : Addr} {T : Str → Bool} {m : Nat}
end
section
variable {K : PySem.W.Frag} {δ : List S} {te : TE}
end
section
variable {Hy : PySem.W.Frag → Prop}
end
end Far
namespace Far
open PySem L2
/-- from here on the thing in slot i is locked -/
def tLockP (i : Nat) (t : TS) : TS := fun D σ H => ∃ d u, σ[i]? = some (some (.ref d)) ∧ H d = some u ∧ Mut (some u) ∧ ∀ od, t D σ (upd H d (.frz od u))
theorem pss_lockP {X : Cx} {st : List Stmt} {t : TS} {i : Nat} (h : PSs X st t) : PSs X st (tLockP i t) := by
  refine ⟨fun pins s σ H D I hw => ?_⟩
  obtain ⟨d, u, _, hd, mu, hw⟩ := hw
  obtain ⟨od, I1⟩ := I.lock hd mu
  exact h.run pins s σ _ _ I1 (hw od)
section
variable {K : PySem.W.Frag}
def keyDD : Key → D
  | .inl i => .int i | .inr s => .str s
theorem rp_kV {G : Hp} (k : Key) : Rp K G (keyDD k) (kV k) := by cases k <;> constructor
theorem RpK.keys {G : Hp} : ∀ {xs : List (Key × D)} {vs : List (Key × V)}, RpK K G xs vs → RpL K G (xs.map fun p => keyDD p.1) (vs.map fun p => kV p.1)
  | _, _, .nil => .nil
  | _, _, .cons _ r => .cons (rp_kV _) r.keys
theorem jis_keys {G : Hp} {a : Addr} {o : Obj} {gs : List (Key × V)} (hp : G a = some (.frz o (.dK gs))) : JIs G (Itk a o gs) (gs.map fun p => kV p.1) := fun H e => by
  have h := e.nt _ _ hp rfl
  refine ⟨fun i hi => ⟨h, by simpa using hi⟩, fun i x H' hy => ?_, fun i hi => ⟨h, by simpa using hi⟩⟩
  obtain ⟨rfl, k, v, hx, rfl⟩ := hy
  exact ⟨rfl, fun _ => by rw [List.getElem?_map, hx]; rfl⟩
variable {δ : List S} {td : TE} {kvs : List (Key × D)}
theorem ei_keys (h : EV K td δ (.d (.dP kvs))) : EI K (iKeys td) δ (kvs.map fun p => keyDD p.1) := by
  intro He Ge H τo τs σ hl ok R q
  refine h He Ge H τo τs σ hl ok _ fun v H1 ⟨G, ok1⟩ => ?_
  obtain ⟨_, e0, r0⟩ := ok1.top
  cases e0
  cases r0 with
  | dP hp rk => exact ⟨_, _, rfl, .inl ⟨_, ok1.gh.nt _ _ hp rfl, q _ H1 G ok1.pop (jig_of rk.keys (jis_keys hp))⟩⟩
end
section
variable {Hy : PySem.W.Frag → Prop}
def asDP : D → M (List (Key × D)) | .dP kvs => .ok kvs | _ => .no
@[simp] theorem asDP_dP {kvs : List (Key × D)} : asDP (.dP kvs) = .ok kvs := (rfl)
theorem asDP_to {x : D} {kvs : List (Key × D)} (h : asDP x = .ok kvs) : x = .dP kvs := by cases x <;> cases h; rfl
/-- for k in d -/
def SI.keys (a : SE Hy) : SI Hy where
  t K W := iKeys (a.t K W)
  f δ := (a.fd δ).bin fun x => (asDP x).bin fun kvs => .ok (kvs.map fun p => keyDD p.1)
  ok K hk W δ := by
    cases h : a.fd δ with
    | ok x =>
      cases h2 : asDP x with
      | ok kvs =>
        simp only [M.ok_bin, h2]
        have e := asDP_to h2
        subst e
        exact ei_keys (a.okD hk h)
      | _ => simp only [M.ok_bin, h2]; trivial
    | _ => trivial
variable {δ : List S}
@[simp] theorem SI.keys_f (a : SE Hy) : (SI.keys a).f δ = (a.fd δ).bin fun x => (asDP x).bin fun kvs => .ok (kvs.map fun p => keyDD p.1) := (rfl)
end
end Far
namespace Far
open PySem L2
section
variable {K : PySem.W.Frag} {δ δ1 δ2 : List S} {te ta tb : TE} {tr : TA} {x y z : D} {s : S} {xs : List D} {fs fs1 fs2 : List (Str × D)} {C : Addr} {E : L2.St → XK} {c : Addr} {cf : List (Str × D)} {W : WX}
theorem exax_of (h : EXA K E tr δ c cf) : EXAX K E tr δ δ c cf := h
theorem exax_head (h : EXX K E ta δ δ1 c cf) : EXAX K E (tCons ta tr) δ δ1 c cf := fun He Ge H τo τs σ hl ok k Q => h He Ge H τo τs σ hl ok k _
theorem exax_tail (ha : EVX K ta δ (.d x) δ1) (h : EXAX K E tr δ1 δ2 c cf) : EXAX K E (tCons ta tr) δ δ2 c cf := fun He Ge H τo τs σ hl ok k Q =>
  ha He Ge H τo τs σ hl ok _ fun v H1 ok1 => h He Ge H1 (some v :: τo) (.d x :: τs) σ (by simp [hl]) ok1 (fun cls d G' H' ok' x => k cls d G' H' ok'.pop x) _
section
variable {R : List D → Out → Prop} {He Ge H G : Hp} {σ : L2.St} {δ0 : List S} {Cs : List Addr} {ll : Bool} {i : Nat} {q0 : Option Addr} {a : Addr} {vs : List V} {E1 : XK}
end
section
variable {R : List D → Out → Prop} {Cs : List Addr} {ll : Bool} {i : Nat} {q0 q1 : Option Addr} {m : Str}
end
end
variable {Hy : PySem.W.Frag → Prop}
def MX.bnd {α β : Type} (m : MX α) (f : α → List S → MX β) : MX β := match m with | .ok a δ => f a δ | .ex δ c fs => .ex δ c fs | .no => .no
@[simp] theorem MX.ok_bnd {α β : Type} {a : α} {δ : List S} {f : α → List S → MX β} : (MX.ok a δ).bnd f = f a δ := (rfl)
@[simp] theorem MX.ex_bnd {α β : Type} {δ : List S} {c : Addr} {fs : List (Str × D)} {f : α → List S → MX β} : (MX.ex δ c fs : MX α).bnd f = .ex δ c fs := (rfl)
@[simp] theorem MX.no_bnd {α β : Type} {f : α → List S → MX β} : (MX.no : MX α).bnd f = .no := (rfl)
def EAYF (K : PySem.W.Frag) (W : WX) (ta : TA) (δ : List S) : MX (List D) → Prop
  | .no => True | .ex δ1 c fs => EXAX K (WE W) ta δ δ1 c fs | .ok xs δ1 => EAX K ta δ xs δ1
variable (Hy) in
structure SAY where
  t : PySem.W.Frag → WX → TA
  f : List S → MX (List D)
  ok : ∀ K, Hy K → ∀ W δ, EAYF K W (t K W) δ (f δ)
section
variable {K : PySem.W.Frag} {δ δ1 : List S} {W : WX}
theorem SAY.okA (e : SAY Hy) (hk : Hy K) {W : WX} {s : List D} (h : e.f δ = .ok s δ1) : EAX K (e.t K W) δ s δ1 := by have z := e.ok K hk W δ; rw [h] at z; exact z
theorem SAY.exA (e : SAY Hy) (hk : Hy K) {W : WX} {c : Addr} {fs : List (Str × D)} (h : e.f δ = .ex δ1 c fs) : EXAX K (WE W) (e.t K W) δ δ1 c fs := by have z := e.ok K hk W δ; rw [h] at z; exact z
end
def SAY.of (a : SA Hy) : SAY Hy where
  t := a.t
  f δ := match a.f δ with | .ok s => .ok s δ | .ex c fs => .ex δ c fs | .no => .no
  ok K hk W δ := by
    cases h : a.f δ with
    | ok s => exact eax_of (a.okA hk h)
    | ex c fs => exact exax_of (a.exA hk h)
    | no => trivial
@[simp] theorem SAY.of_f (e : SA Hy) (δ : List S) : (SAY.of e).f δ = match e.f δ with | .ok s => .ok s δ | .ex c fs => .ex δ c fs | .no => .no := (rfl)
def SAY.cons (e : SX Hy) (r : SAY Hy) : SAY Hy where
  t K W := tCons (e.t K W) (r.t K W)
  f δ := (e.f δ).bnd fun s δ1 => (MX.ofM (toD s) δ1).bnd fun x δ1 => (r.f δ1).bnd fun xs δ2 => .ok (x :: xs) δ2
  ok K hk W δ := by
    cases h : e.f δ with
    | ok s δ1 =>
      simp only [MX.ok_bnd]
      cases h2 : toD s with
      | ok x =>
        simp only [MX.ofM_ok, MX.ok_bnd]
        cases h3 : r.f δ1 with
        | ok xs δ2 => exact eax_cons (evx_toD (e.okS hk h) h2) (r.okA hk h3)
        | ex δ2 c cf => exact exax_tail (evx_toD (e.okS hk h) h2) (r.exA hk h3)
        | no => trivial
      | _ => trivial
    | ex δ1 c cf => exact exax_head (e.exS hk h)
    | no => trivial
@[simp] theorem SAY.cons_f (e : SX Hy) (r : SAY Hy) (δ : List S) : (SAY.cons e r).f δ = (e.f δ).bnd fun s δ1 => (MX.ofM (toD s) δ1).bnd fun x δ1 => (r.f δ1).bnd fun xs δ2 => .ok (x :: xs) δ2 := (rfl)
open PyProof.Rows
end Far
namespace Far
open PySem L2
section
open PySem.Spec PyProof.Rows
end
end Far
namespace Far
open PySem L2
section
variable {K : PySem.W.Frag} {δ : List S} {C : Addr} {fs fs2 : List (Str × D)} {xs : List D} {s : S} {tr : TA}
end
variable {Hy : PySem.W.Frag → Prop}
end Far
namespace Far
open PySem L2 PySem.Spec PyProof.Rows
open Sem (wp)
theorem itemsAre {P : Program} {w : World} : ∀ {k : List KO} {us : List Value}, Vals (k.map vO) us → ItemsAre (oKind P w) k us
  | [], _, r => by rw [List.map_nil] at r; cases r; exact .nil
  | a :: k, _, r => by
    rw [List.map_cons] at r
    cases r with
    | cons h t => exact .cons (vO_is h) (itemsAre t)
/-- the key tuples of entries are where they are told -/
def KeysAt (K : PySem.W.Frag) (H : Hp) (gs : List (List KO × Addr × V)) : Prop := ∀ g ∈ gs, SqT K H g.2.1 (g.1.map vO)
theorem TV.mem : ∀ {gs : List (List KO × Addr × V)} {xs : List (List KO × Addr × Value)}, TV gs xs → ∀ x ∈ xs, ∃ g ∈ gs, g.1 = x.1 ∧ g.2.1 = x.2.1
  | _, _, .nil, _, h => by simp at h
  | _, _, .cons r t, x, h => by
    rcases List.mem_cons.mp h with rfl | h
    · exact ⟨_, List.mem_cons_self, r.1, r.2.1⟩
    · obtain ⟨g, h1, h2⟩ := TV.mem t x h
      exact ⟨g, List.mem_cons_of_mem _ h1, h2⟩
theorem TV.length : ∀ {gs : List (List KO × Addr × V)} {xs : List (List KO × Addr × Value)}, TV gs xs → gs.length = xs.length
  | _, _, .nil => rfl
  | _, _, .cons r t => congrArg (· + 1) (TV.length t)
theorem TV.get : ∀ {gs : List (List KO × Addr × V)} {xs : List (List KO × Addr × Value)} {i : Nat} {g : List KO × Addr × V}, TV gs xs → gs[i]? = some g → ∃ x, xs[i]? = some x ∧ g.1 = x.1 ∧ g.2.1 = x.2.1 ∧ RelV g.2.2 x.2.2
  | _, _, _, _, .nil, h => by simp at h
  | _, _, 0, _, .cons r t, h => by simp at h; subst h; exact ⟨_, rfl, r⟩
  | _, _, i + 1, _, .cons r t, h => by simpa using TV.get (i := i) t (by simpa using h)
/-- what is at a key -/
def valT (gs : List (List KO × Addr × V)) (k : List KO) : Option V := (gs.find? fun p => decide (p.1 = k)).map (·.2.2)
def putT (gs : List (List KO × Addr × V)) (k : List KO) (q : Addr) (v : V) : List (List KO × Addr × V) := if (gs.any fun p => decide (p.1 = k)) = true then gs.map (fun p => if p.1 = k then (p.1, p.2.1, v) else p) else gs ++ [(k, q, v)]
theorem putT_len (gs : List (List KO × Addr × V)) (k : List KO) (q : Addr) (v : V) : (putT gs k q v).length ≤ gs.length + 1 := by
  unfold putT; split <;> simp
theorem TV.val {k : List KO} : ∀ {gs : List (List KO × Addr × V)} {xs : List (List KO × Addr × Value)}, TV gs xs → match valT gs k, atKey xs k with | some v, some p => RelV v p.2 | none, none => True | _, _ => False
  | _, _, .nil => by simp [valT, atKey]
  | _, _, .cons (a := g) (b := x) r t => by
    have ih := TV.val (k := k) t
    unfold valT atKey at ih ⊢
    rw [List.find?_cons, List.find?_cons]
    by_cases e : g.1 = k
    · have e2 : x.1 = k := r.1 ▸ e
      rw [decide_eq_true e, decide_eq_true e2]
      exact r.2.2
    · have e2 : ¬ x.1 = k := fun z => e (r.1.trans z)
      rw [decide_eq_false e, decide_eq_false e2]
      exact ih
theorem TV.getD {k : List KO} {gs : List (List KO × Addr × V)} {xs : List (List KO × Addr × Value)} {z : V} {fv : Value} (t : TV gs xs) (r : RelV z fv) : RelV ((valT gs k).getD z) (((atKey xs k).map (·.2)).getD fv) := by
  have h := t.val (k := k)
  cases e1 : valT gs k <;> cases e2 : atKey xs k <;> rw [e1, e2] at h
  · exact r
  · exact h.elim
  · exact h.elim
  · exact h
theorem TV.any {k : List KO} : ∀ {gs : List (List KO × Addr × V)} {xs : List (List KO × Addr × Value)}, TV gs xs → (gs.any fun p => decide (p.1 = k)) = (atKey xs k).isSome
  | _, _, .nil => rfl
  | _, _, .cons (a := g) (b := x) r t => by
    have ih := TV.any (k := k) t
    unfold atKey at ih ⊢
    rw [List.any_cons, List.find?_cons]
    by_cases e : g.1 = k
    · have e2 : x.1 = k := r.1 ▸ e
      rw [decide_eq_true e, decide_eq_true e2]; rfl
    · have e2 : ¬ x.1 = k := fun z => e (r.1.trans z)
      rw [decide_eq_false e, decide_eq_false e2, Bool.false_or]
      exact ih
theorem TV.app : ∀ {gs hs : List (List KO × Addr × V)} {xs ys : List (List KO × Addr × Value)}, TV gs xs → TV hs ys → TV (gs ++ hs) (xs ++ ys)
  | _, _, _, _, .nil, s => s
  | _, _, _, _, .cons h r, s => .cons h (TV.app r s)
theorem TV.mapPut {k : List KO} {v : V} {u : Value} (rv : RelV v u) : ∀ {gs : List (List KO × Addr × V)} {xs : List (List KO × Addr × Value)}, TV gs xs → TV (gs.map fun p => if p.1 = k then (p.1, p.2.1, v) else p) (xs.map (putAt k u))
  | _, _, .nil => .nil
  | _, _, .cons (a := g) (b := x) r t => by
    rw [List.map_cons, List.map_cons]
    refine .cons ?_ (TV.mapPut rv t)
    unfold putAt
    by_cases e : g.1 = k
    · have e2 : x.1 = k := r.1 ▸ e
      rw [if_pos e, if_pos e2]; exact ⟨r.1, r.2.1, rv⟩
    · have e2 : ¬ x.1 = k := fun z => e (r.1.trans z)
      rw [if_neg e, if_neg e2]; exact r
theorem TV.put {k : List KO} {q : Addr} {v : V} {u : Value} {gs : List (List KO × Addr × V)} {xs : List (List KO × Addr × Value)} (t : TV gs xs) (rv : RelV v u) : TV (putT gs k q v) (storedH xs k q u) := by
  unfold putT storedH
  rw [t.any]
  split
  · exact t.mapPut rv
  · exact t.app (.cons ⟨rfl, rfl, rv⟩ .nil)
theorem t_new {P : Program} {w : World} {h : Heap} {a : Addr} {gs : List (List KO × Addr × V)} {xs : List (List KO × Addr × Value)} (z : gs.length ≤ sizeLine) (hd : (a == sysModules) = false) (rel : TV gs xs) (dd : h.DictOfH (tupleKind (oKind P w)) a xs) :
    ∃ o, h.get? a = some o ∧ TP a (o, gs) h ∧ ∀ H', ObjOk P w H' h a (DT a (o, gs)) := by
  obtain ⟨o, es, ep, h1, h2, h3, h4, h5, h6⟩ := dd
  have t : TP a (o, gs) h := ⟨h1, z, hd, xs, rel, es, ep, h2, h3, fun P' w' => h4, h6⟩
  exact ⟨o, h1, t, fun H' => ⟨t, ⟨o, h1⟩, fun p q ⟨e1, e2, e3, us, e4, e5⟩ k => ⟨k _ e1, e2, e3, us, e4, e5⟩⟩⟩
section
variable {X : Cx} {pins : List (Addr × Obj)} {σ : L2.St} {H : Hp} {s : Shared} {a : Addr} {A : Around} {E : Value → Shared → Prop} {og : Obj × List (List KO × Addr × V)}
theorem tkey_of (I : Inv X pins σ H s) {q : Addr} {k : List KO} (h : SqT X.K H q (k.map vO)) : (tupleKind (oKind X.prog X.w)).is s.heap k q := by
  obtain ⟨its, rv, ⟨o, h1, h2, n, h3⟩, _⟩ := I.tuple h
  exact ⟨o, its.toArray, n, h1, h2, h3, by simpa using itemsAre rv⟩
theorem dt_tp (I : Inv X pins σ H s) (e : Rd H a (DT a og)) : TP a og s.heap := by
  rcases e with e | ⟨od, e⟩
  · obtain ⟨t, _⟩ := (show ObjOk X.prog X.w H s.heap a (DT a og) from I.hok a _ e); exact t
  · obtain ⟨_, t, _⟩ := (show ObjOk X.prog X.w H s.heap a (.frz od (DT a og)) from I.hok a _ e); exact t
theorem dt_ty (I : Inv X pins σ H s) (e : Rd H a (DT a og)) : s.TypeIs (.ref a) "dict" ∧ s.heap.get? a = some og.1 ∧ og.1.dict = none ∧ (a == sysModules) = false := by
  obtain ⟨h1, _, h3, xs, _, es, ep, h2, _⟩ := dt_tp I e
  exact ⟨⟨_, h1, h2.1⟩, h1, h2.2.1, h3⟩
theorem dt_rd (I : Inv X pins σ H s) (e : Rd H a (DT a og)) (hk : KeysAt X.K H og.2) : og.2.length ≤ sizeLine ∧ (a == sysModules) = false ∧ s.heap.get? a = some og.1 ∧ ∃ xs, TV og.2 xs ∧ s.heap.DictOfH (tupleKind (oKind X.prog X.w)) a xs := by
  obtain ⟨h1, h2, h3, xs, h4, es, ep, h5, h6, h7, h8⟩ := dt_tp I e
  refine ⟨h2, h3, h1, xs, h4, og.1, es, ep, h1, h5, h6, h7 _ _, fun x hx => ?_, h8⟩
  obtain ⟨g, hg, e1, e2⟩ := TV.mem h4 x hx
  rw [← e1, ← e2]; exact tkey_of I (hk g hg)
theorem d_writeT {gs' : List (List KO × Addr × V)} {xs' : List (List KO × Addr × Value)} {h' : Heap} {t' : Nat} (I : Inv X pins σ H s) (e : H a = some (DT a og)) (hs : Heap.SameBut a s.heap h')
    (z : gs'.length ≤ sizeLine) (rel : TV gs' xs') (dd : h'.DictOfH (tupleKind (oKind X.prog X.w)) a xs') : ∃ ob', (∃ h, TP a (ob', gs') h) ∧ Inv X pins σ (upd H a (DT a (ob', gs'))) { s with heap := h', toks := t' } := by
  obtain ⟨_, _, _, hd⟩ := dt_ty I (.inl e)
  obtain ⟨o, h1, t, h2⟩ := t_new z hd rel dd
  exact ⟨o, ⟨_, t⟩, d_write I (by rw [e]; exact True.intro) hs ⟨o, h1⟩ (h2 _)⟩
end
def tTGet2 (K : PySem.W.Frag) (td ty tx : TE) : TE := fun σ H Q => td σ H fun x H1 => ∃ a og, x = .ref a ∧ Rd H1 a (DT a og) ∧ ty σ H1 fun y H2 => tx σ H2 fun z H3 => ∃ og2 q k, Rd H3 a (DT a og2) ∧ KeysAt K H3 og2.2 ∧ y = .ref q ∧ SqT K H3 q (k.map vO) ∧ Q ((valT og2.2 k).getD z) H3
def sTPut (K : PySem.W.Frag) (td ty tv : TE) : TS := fun D σ H => tv σ H fun v H1 => td σ H1 fun x H2 => ty σ H2 fun y H3 => ∃ a og q k, x = .ref a ∧ H3 a = some (DT a og) ∧ KeysAt K H3 og.2 ∧ y = .ref q ∧ SqT K H3 q (k.map vO) ∧ og.2.length < sizeLine ∧ ∀ ob', (∃ h, TP a (ob', putT og.2 k q v) h) → D.nx σ (upd H3 a (DT a (ob', putT og.2 k q v)))
def tTNew : TE := fun _ H Q => ∀ p ob, H p = none → (∃ h, TP p (ob, []) h) → Q (.ref p) (upd H p (DT p (ob, [])))
/-- d[k] -/
def rTIx (K : PySem.W.Frag) : R2 := fun x y H Q => ∃ a og q k v, x = .ref a ∧ y = .ref q ∧ Rd H a (DT a og) ∧ KeysAt K H og.2 ∧ SqT K H q (k.map vO) ∧ valT og.2 k = some v ∧ Q v H
/-- the hash of a key -/
def hO : KO → Int | none => reduceHash 0xFCA86420 | some i => hashInt i
def hT (k : List KO) : Int := reduceHash (Builtin.Tuple.tupleHashOf (k.map hO))
theorem hT_eq {P : Program} {w : World} (k : List KO) : (tupleKind (oKind P w)).hash k = hT k := by
  show reduceHash (Builtin.Tuple.tupleHashOf (k.map (oKind P w).hash)) = _
  unfold hT
  have e : (oKind P w).hash = hO := by funext x; cases x <;> rfl
  rw [e]
/-- .. locked at once -/
def tTCopyF (K : PySem.W.Frag) (te : TE) : TE := fun σ H Q => te σ H fun x H1 => ∃ a og, x = .ref a ∧ Rd H1 a (DT a og) ∧ KeysAt K H1 og.2 ∧ (og.2.map fun g => hT g.1).Nodup ∧ ∀ p ob' od, H1 p = none → Q (.ref p) (upd H1 p (.frz od (DT p (ob', og.2))))
section
variable {X : Cx} {o e f i value : Expr} {apos cpos pos pos' : Pos} {td ty tx tv : TE}
theorem pe_tget2 (hu : X.A.units + 64 < cLine) (ho : PE X o td) (he : PE X e ty) (hf : PE X f tx) (m : M2 X o "get" apos e f cpos) : PE X (.Call (.Attribute o "get" apos) [e, f] [] cpos) (tTGet2 X.K td ty tx) := by
  refine ⟨fun pins s σ H Q I h => ?_⟩
  refine wpAny_Call_method m.base m.few m.line PySem.F.plainAttrs_dict PySem.F.slot_dict_get PySem.F.type_dict_get (thn (ho.run pins s σ H _ I h) fun u s1 ⟨x, H1, I1, rx, a, og, ex, d, q1⟩ => ?_)
  subst ex
  obtain rfl : u = Value.ref a := rx
  obtain ⟨y1, y2, y3, _⟩ := dt_ty I1 d
  refine ⟨y1, fun b q => ?_, ?_⟩
  · cases q
    exact ⟨_, y2, y3⟩
  rw [m.trees]
  refine Calls.callWith_builtin rfl (Calls.evalArgs_plain (Calls.spliced_cons (thn (he.run pins s1 σ H1 _ I1 q1) fun iv s2 ⟨y, H2, I2, ry, q2⟩ =>
    Calls.spliced_cons (thn (hf.run pins s2 σ H2 _ I2 q2) fun fv s3 ⟨z, H3, I3, rz, og2, q, k, d3, ka, ey, hq, q3⟩ => Calls.spliced_nil ?_))))
  subst ey
  obtain rfl : iv = Value.ref q := ry
  obtain ⟨_, hd, _, xs, rel, dd3⟩ := dt_rd I3 d3 ka
  refine call_meetsIn PySem.F.slot_dict_get dd3.typeIs PySem.F.entry_dict_get (PySem.F.args_dict_get_3 _ _ _) (meetsH_dict_get_default (tupleKind (oKind X.prog X.w)) a q hd fv) ⟨tupleKind_room_in1 (by omega), k, xs, tkey_of I3 hq, dd3, ⟨_, H3, I3.tok _, ?_, q3⟩⟩
  exact rel.getD rz
theorem ps_tput (hu : X.A.units + 64 < cLine) (ho : PE X o td) (hi : PE X i ty) (hv : PE X value tv) (hs : swapsWith value (some (.Subscript o i pos')) pos.line X.env = pure false) :
    PS X (.Assign [.Subscript o i pos'] value pos) (sTPut X.K td ty tv) := by
  refine ⟨fun pins s σ H D I h => ?_⟩
  refine wpAny_Assign_Subscript (thn (hv.run pins s σ H _ I h) fun r s1 ⟨v, H1, I1, rv, q1⟩ => thn (ho.run pins s1 σ H1 _ I1 q1) fun u s2 ⟨x, H2, I2, rx, q2⟩ => thn (hi.run pins s2 σ H2 _ I2 q2) fun iv s3 ⟨y, H3, I3, ry, a, og, q, k, ex, e, ka, ey, hq, l, q3⟩ => ?_) hs
  subst ex ey
  obtain rfl : u = Value.ref a := rx
  obtain rfl : iv = Value.ref q := ry
  obtain ⟨z, hd, _, xs, rel, dd⟩ := dt_rd I3 (.inl e) ka
  have hz : xs.length ≤ sizeLine := by rw [← rel.length]; exact z
  refine wpAny_setItem_heap (hsz := hz) (show (tupleKind (oKind X.prog X.w)).room X.A.in1 from tupleKind_room_in1 (by omega)) (tkey_of I3 hq) dd fun h' dd' hs => ?_
  have hl : (putT og.2 k q v).length ≤ sizeLine := by have := putT_len og.2 k q v; omega
  obtain ⟨ob', t, I4⟩ := d_writeT (t' := s3.toks + (tupleKind (oKind X.prog X.w)).draws k) I3 e hs hl (rel.put rv) dd'
  exact ⟨σ, _, I4, q3 ob' t⟩
theorem pe_tnew : PE X (.Dict [] [] pos) tTNew := ⟨fun pins s σ H Q I h => by
  have big := I.big
  refine wpAny_Dict_empty ?_
  have dd : (s.heap.push { cls := .type "dict", data := .dict #[] }).DictOfH (tupleKind (oKind X.prog X.w)) s.heap.objs.size [] := Heap.DictOfH.new s.heap
  obtain ⟨o, h1, t, h2⟩ := t_new (gs := []) (Nat.zero_le _) (beq_eq_false_iff_ne.mpr (Nat.ne_of_gt big)) .nil dd
  exact ⟨.ref s.heap.objs.size, _, I.laid (a := s.heap.objs.size) (t' := s.toks) (fun _ _ q => Heap.get?_push_of_some _ q) (Nat.le_refl _) (h2 _), rfl, h _ o (I.hok.fresh (Nat.le_refl _)) ⟨_, t⟩⟩⟩
end
end Far
namespace PySem
open Sem (wp)
section
variable {prog : Program} {w : World} {K : Type} [DecidableEq K] {knd : HeapKind prog w K} {A : Around} {E : Value → Shared → Prop} {s : Shared}
theorem storedAllH_new : ∀ (more xs : List (K × Addr × Value)), ((xs ++ more).map (·.1)).Nodup → storedAllH xs more = xs ++ more
  | [], xs, _ => by rw [List.append_nil]; rfl
  | p :: more, xs, h => by
    have hn : atKey xs p.1 = none := by
      refine atKey_none_of_get fun j q e => ?_
      rw [List.map_append, List.nodup_append] at h
      exact h.2.2 _ (List.mem_map.mpr ⟨_, List.mem_of_getElem? e, rfl⟩) _ (List.mem_map.mpr ⟨p, List.mem_cons_self, rfl⟩) rfl
    show storedAllH (storedH xs p.1 p.2.1 p.2.2) more = _
    rw [storedH_new hn, storedAllH_new more (xs ++ [(p.1, p.2.1, p.2.2)]) (by simpa using h)]
    simp
/-- dict(d), the keys tuples -/
theorem kt_call_dictH {o : Addr} {more : List (K × Addr × Value)} {Q : Value → Shared → Prop} (hu : knd.room A.in1.in1) (hoS : (o == sysModules) = false) (ho : s.heap.DictOfH knd o more) (hty : ∀ x ∈ more, s.TypeIs (.ref x.2.1) "tuple") (hst : ∀ ob, ∀ x ∈ more, knd.is (s.heap.push ob) x.1 x.2.1) (hap : (more.map fun x => knd.hash x.1).Nodup) (hsz : more.length ≤ sizeLine)
    (h : ∀ h', h'.DictOfH knd s.heap.objs.size more → Heap.SameBut s.heap.objs.size (s.heap.push { cls := .type "dict", data := .dict #[] }) h' → Q (.ref s.heap.objs.size) { s with heap := h' }) :
    wpAny (model prog w) A (call (.type "dict") [.ref o]) Q E s := by
  refine callType_codes (Q₁ := fun obj s₁ => obj = .ref s.heap.objs.size ∧ s₁ = { s with heap := s.heap.push { cls := .type "dict", data := .dict #[] } }) F.kt_called_dict (F.kt_typeCall_dict_1 _) F.entry_dict_init (kt_code_dict_new _ ⟨rfl, rfl⟩) ?_
  rintro obj s₁ ⟨rfl, rfl⟩
  have hnew : (s.heap.push { cls := .type "dict", data := .dict #[] }).DictOfH knd s.heap.objs.size [] := Heap.DictOfH.new s.heap
  have ho' : (s.heap.push { cls := .type "dict", data := .dict #[] }).DictOfH knd o more := ho.at' (fun _ e => Heap.get?_push_of_some _ e) (hst _)
  have hn : (more.map (·.1)).Nodup := ho.nodup
  have hdo : s.heap.objs.size ≠ o := fun e => absurd ho.lt_size (by rw [e]; exact Nat.lt_irrefl _)
  refine ⟨hnew.typeIs, F.args_dict_init_2 _ _, ?_⟩
  unfold Builtin.«dict.__init__»
  refine wpAny_bind ?_
  unfold Builtin.Dict.selfAndRest
  refine wpAny_bind (wpAny_notOrdered_dict hnew.typeIs ?_)
  show wpAny _ _ (pure (s.heap.objs.size, [Value.ref o])) _ _ _
  refine wpAny_pure ?_
  show wpAny _ _ (Builtin.Dict.updateFrom "dict.__init__" s.heap.objs.size (.ref o) [] .none) _ _ _
  unfold Builtin.Dict.updateFrom
  refine wpAny_bind (wpAny_typeOf ho'.typeIs ?_)
  rw [if_neg (by decide)]
  refine wpAny_bind ?_
  unfold Builtin.Dict.merge
  refine wpAny_bind ?_
  unfold Builtin.Dict.readDirectly
  refine wpAny_bind (wpAny_isInstance ho'.typeIs isSubtype_dict_dict ?_)
  simp only [Bool.not_true, Bool.false_eq_true, if_false]
  refine wpAny_bind (wpAny_specialOf ho'.typeIs F.slot_dict_iter.lookup (wpAny_pure ?_))
  simp only [beq_self_eq_true, if_true]
  refine wpAny_bind (wpAny_pure ?_)
  refine wpAny_mergeDict_heap (hsz := by simpa using hsz) hu hdo hoS hnew ho' (.inr ⟨fun x hx => ?_, hap⟩) fun h' hd' _ hs' => ?_
  · obtain ⟨ob, e, c⟩ := hty x hx
    exact ⟨ob, Heap.get?_push_of_some _ e, c⟩
  show wpAny _ _ (Builtin.Dict.addKeywords s.heap.objs.size [] >>= _) _ _ _
  rw [storedAllH_new more [] (by simpa using hn), List.nil_append] at hd'
  exact wpAny_bind (wpAny_pure (wpAny_pure ⟨rfl, h h' hd' hs'⟩))
end
end PySem
namespace Far
open PySem L2 PySem.Spec PyProof.Rows
open Sem (wp)
section
variable {X : Cx} {o e : Expr} {p pos apos cpos : Pos} {td te : TE}
theorem tkey_stay {P : Program} {w : World} {h h' : Heap} {k : List KO} {q : Addr} (st : ∀ b o, h.get? b = some o → h'.get? b = some o) (x : (tupleKind (oKind P w)).is h k q) : (tupleKind (oKind P w)).is h' k q :=
  tupleKind_stays.stays (fun b o _ _ e _ => st b o e) x
theorem hashes {P : Program} {w : World} : ∀ {gs : List (List KO × Addr × V)} {xs : List (List KO × Addr × Value)}, TV gs xs → (xs.map fun x => (tupleKind (oKind P w)).hash x.1) = gs.map fun g => hT g.1
  | _, _, .nil => rfl
  | _, _, .cons r t => by rw [List.map_cons, List.map_cons, hashes t, r.1, hT_eq]
theorem d_copyT {pins : List (Addr × Obj)} {σ : L2.St} {H : Hp} {s : Shared} {a : Addr} {og : Obj × List (List KO × Addr × V)} {A : Around} {E : Value → Shared → Prop} {Q : Value → Shared → Prop} (hu : A.units + 4 < cLine) (I : Inv X pins σ H s) (e : Rd H a (DT a og)) (ka : KeysAt X.K H og.2) (hn : (og.2.map fun g => hT g.1).Nodup)
    (h : ∀ p ob' s', H p = none → (∃ h, TP p (ob', og.2) h) → Inv X pins σ (upd H p (DT p (ob', og.2))) s' → Q (.ref p) s') : wpAny (model X.prog X.w) A (call (.type "dict") [.ref a]) Q E s := by
  obtain ⟨z, hd, _, xs, rel, dd⟩ := dt_rd I e ka
  have his : ∀ x ∈ xs, (tupleKind (oKind X.prog X.w)).is s.heap x.1 x.2.1 := let ⟨_, _, _, _, _, _, _, q, _⟩ := dd; q
  have hh := hashes (P := X.prog) (w := X.w) rel
  refine kt_call_dictH (knd := tupleKind (oKind X.prog X.w)) (show A.units + 2 < cLine by omega) hd dd (fun x hx => tupleKind_stays.tuple (his x hx)) (fun ob x hx => tkey_stay (fun b o e => Heap.get?_push_of_some _ e) (his x hx)) (by rw [hh]; exact hn) (by rw [← rel.length]; exact z) fun h' dd' hs => ?_
  obtain ⟨o, h1, t, h2⟩ := t_new z (beq_eq_false_iff_ne.mpr (Ne.symm (Nat.ne_of_lt I.big))) rel dd'
  refine h _ o _ (I.hok.fresh (Nat.le_refl _)) ⟨_, t⟩ (I.laid (a := s.heap.objs.size) (t' := s.toks) (fun b q hq => ?_) (Nat.le_refl _) (h2 _))
  exact (hs.2 b (Nat.ne_of_lt (Heap.lt_size hq))).trans (Heap.get?_push_of_some _ hq)
theorem pe_tcopyF (hu : X.A.units + 64 < cLine) (hg : Gl X "dict") (hm : X.mg "dict" = none) (he : PE X e te)
    (na : starEach [e] X.env = (false, eval e X.env) :: starEach [] X.env := by rfl) : PE X (.Call (.Name "dict" p) [e] [] pos) (tTCopyF X.K te) := by
  refine ⟨fun pins s σ H Q I h => ?_⟩
  refine Call_ (ld_blt I hg hm boot_dict (PyProof.Rows.callWith_type1 (args_cons (thn (he.run pins s σ H _ I h) fun u s1 ⟨x, H1, I1, rx, a, og, ex, hd, ka, hn, q⟩ => args_nil ?_) na) na))
  subst ex
  obtain rfl : u = Value.ref a := rx
  exact d_copyT (by show X.A.units + _ < _; omega) I1 hd ka hn fun p ob' s' hp t I2 => by
    obtain ⟨od, I3⟩ := I2.lock upd_same True.intro
    rw [upd_upd] at I3
    exact ⟨.ref p, _, I3, rfl, q p ob' od hp⟩
theorem ix_T (hu : X.A.units + 64 < cLine) : IxR X (rTIx X.K) := by
  intro value slice pins s σ H x y v u Q I rx ry h hs
  obtain ⟨a, og, q, k, w, rfl, rfl, d, ka, hq, hv, qq⟩ := h
  obtain rfl : v = Value.ref a := rx
  obtain rfl : u = Value.ref q := ry
  obtain ⟨z, hd, _, xs, rel, dd⟩ := dt_rd I d ka
  have r := rel.val (k := k)
  rw [hv] at r
  cases e2 : atKey xs k with
  | none => rw [e2] at r; exact r.elim
  | some pp =>
    rw [e2] at r
    exact subscriptTail_builtinR (x := pp.2) dd.typeIs PySem.F.slot_dict_getitem.lookup
      (wpAny_getItem_heap (Q := fun r s' => r = pp.2 ∧ EP X pins σ Q r s') (show (tupleKind (oKind X.prog X.w)).room X.A.in1 from tupleKind_room_in1 (by omega)) (tkey_of I hq) dd e2 ⟨rfl, w, H, I.tok _, r, qq⟩) hs
def ItT (K : PySem.W.Frag) (d : Addr) (og : Obj × List (List KO × Addr × V)) : It :=
  ⟨fun i H => Rd H d (DT d og) ∧ i < og.2.length, fun i H x H' => H' = H ∧ ∃ g, og.2[i]? = some g ∧ x = .ref g.2.1, fun i H => Rd H d (DT d og) ∧ og.2.length ≤ i⟩
theorem dt_es {pins : List (Addr × Obj)} {σ : L2.St} {H : Hp} {s : Shared} {a : Addr} {og : Obj × List (List KO × Addr × V)} {es : Array DictEntry} {ep : Nat} (I : Inv X pins σ H s) (e : Rd H a (DT a og)) (hod : og.1.data = .dict es ep) :
    s.heap.get? a = some og.1 ∧ og.1.ExactDict ∧ (a == sysModules) = false ∧ es.size = og.2.length ∧ ∀ (i : Nat) g, og.2[i]? = some g → ∃ en : DictEntry, es[i]? = some en ∧ en.key = .ref g.2.1 := by
  obtain ⟨h1, h2, h3, xs, h4, es', ep', h5, h6, h7, h8⟩ := dt_tp I e
  obtain ⟨rfl, rfl⟩ := dict_ep hod h6
  have h7 := h7 X.prog X.w
  refine ⟨h1, h5, h3, by rw [size_of_entries h7, h4.length], fun i g hg => ?_⟩
  obtain ⟨x, hx, _, e2, _⟩ := h4.get hg
  have q := entry_at h7 i
  rw [hx] at q
  exact ⟨_, q, by rw [e2]; rfl⟩
theorem turn_tkeys {P : Program} {w : World} {K : PySem.W.Frag} {tg : Expr} {d : Addr} {og : Obj × List (List KO × Addr × V)} {es : Array DictEntry} {ep : Nat} (it : Addr) (hod : og.1.data = .dict es ep) :
    Turn P w K tg (ItT K d og) [it] it (fun i h => h.IsKeyIter it d i og.2.length ep) where
  mem := by simp
  obj := fun i h st b hb => by
    have e : b = it := by simpa using hb
    subst e
    obtain ⟨oi, e, c, dd⟩ := st
    exact ⟨oi, e, fun v z => by rw [dd] at z; cases z⟩
  keep := fun i h h' st k => st.at fun oi e => k it (by simp) oi e
  item := by
    intro X hP hw hK hc i pins s σ H E I hf st hg
    subst hP hw hK
    obtain ⟨hd, hi⟩ := hg
    obtain ⟨f0, f1, f2, f3, f4, f5⟩ := hf it (by simp)
    obtain ⟨hgd, hx, hs, hsz, ent⟩ := dt_es I hd hod
    obtain ⟨g, hg⟩ : ∃ p, og.2[i]? = some p := ⟨og.2[i], List.getElem?_eq_getElem hi⟩
    obtain ⟨en, hen, hkey⟩ := ent i g hg
    refine next_key_item st hgd hod hsz hen fun h' st' sb => ?_
    have I1 : Inv X pins σ H { s with heap := h' } := I.turned (t' := s.toks) (fun b ob hb e => (sb.2 b hb).trans e) f0 f1 f3 f4 f5
    obtain ⟨oi, e, c, dd⟩ := id st'
    exact ⟨en.key, rfl, go_of (s := { s with heap := h' }) e c dd (by decide) ⟨.ref g.2.1, H, I1, hkey, ⟨rfl, g, hg, rfl⟩, st', fun b hb => (hf b hb).1⟩⟩
  done := by
    intro X hP hw hK hc i pins s σ H E I hf st hg
    subst hP hw hK
    obtain ⟨hd, hi⟩ := hg
    obtain ⟨f0, f1, f2, f3, f4, f5⟩ := hf it (by simp)
    obtain ⟨hgd, hx, hs, hsz, ent⟩ := dt_es I hd hod
    exact next_key_end (I.ok.hd hc) st hgd hod hsz hi fun h' eb => ⟨rfl, I.turned (t' := s.toks) (fun b ob hb e => eb b ob hb e) f0 f1 f3 f4 f5⟩
  self := fun A i s Q E st h => by
    refine wpAny_pyIter_slot st.typeIs F.slot_dict_keyiterator_iter (wpAny_call_entry F.slot_dict_keyiterator_iter st.typeIs F.entry_dict_keyiterator_iter ?_ (F.args_dict_keyiterator_iter_1 _))
    show wpAny _ _ (ret (.ref it)) _ _ s
    exact wpAny_pure ⟨_, rfl, "dict_keyiterator", _, st.typeIs, F.slot_dict_keyiterator_next.lookup, h⟩
def iTKeys (K : PySem.W.Frag) (td : TE) : TI := fun σ H R => td σ H fun x H1 => ∃ d og, x = .ref d ∧ Rd H1 d (DT d og) ∧ R (ItT K d og) H1
theorem pi_tkeys {tg : Expr} (he : PE X e td) : PI X tg e (iTKeys X.K td) := by
  refine ⟨fun pins s σ H R I h => ?_⟩
  refine thn (he.run pins s σ H _ I h) fun u s1 ⟨x, H1, I1, rx, d, og, ex, hd, q⟩ => ?_
  subst ex
  obtain rfl : u = Value.ref d := rx
  obtain ⟨_, _, _, _, _, es, ep, _, hdt, _⟩ := dt_tp I1 hd
  obtain ⟨hgd, hx, hs, hsz, ent⟩ := dt_es I1 hd hdt
  refine iter_keys hs hgd hx hdt (pi_one (tk := s1.toks) I1 _ (turn_tkeys _ hdt) ⟨_, Heap.get?_push_size _ rfl, rfl, ?_⟩ q)
  rw [hsz] <;> rfl
/-- what is alike -/
def SameT (K : PySem.W.Frag) (H : Hp) : List (List KO × Addr × V) → List (List KO × Addr × V) → Prop := Paired fun g h => g.1 = h.1 ∧ ∃ (q r : Addr) (u : List KO), g.2.2 = .ref q ∧ h.2.2 = .ref r ∧ SqT K H q (u.map vO) ∧ SqT K H r (u.map vO)
theorem SameT.get {K : PySem.W.Frag} {H : Hp} : ∀ {gs hs : List (List KO × Addr × V)} {i : Nat} {g h : List KO × Addr × V}, SameT K H gs hs → gs[i]? = some g → hs[i]? = some h → g.1 = h.1 ∧ ∃ (q r : Addr) (u : List KO), g.2.2 = .ref q ∧ h.2.2 = .ref r ∧ SqT K H q (u.map vO) ∧ SqT K H r (u.map vO)
  | _, _, _, _, _, .nil, h, _ => by simp at h
  | _, _, 0, _, _, .cons r t, h, h2 => by simp at h h2; subst h h2; exact r
  | _, _, i + 1, _, _, .cons r t, h, h2 => SameT.get (i := i) t (by simpa using h) (by simpa using h2)
theorem SameT.length {K : PySem.W.Frag} {H : Hp} : ∀ {gs hs : List (List KO × Addr × V)}, SameT K H gs hs → gs.length = hs.length
  | _, _, .nil => rfl
  | _, _, .cons _ t => congrArg (· + 1) t.length
end
end Far
namespace Far
open PySem L2
def keyL : List D → Option (List KO)
  | [] => some []
  | x :: r => (keyO x).bind fun k => (keyL r).map fun l => k :: l
def keyT : D → Option (List KO)
  | .tup xs => keyL xs | _ => none
def valTD (es : List (List KO × D)) (k : List KO) : Option D := (es.find? fun p => decide (p.1 = k)).map (·.2)
def putTD (es : List (List KO × D)) (k : List KO) (x : D) : List (List KO × D) := if (es.any fun p => decide (p.1 = k)) = true then es.map (fun p => if p.1 = k then (p.1, x) else p) else es ++ [(k, x)]
section
variable {K : PySem.W.Frag} {H G : Hp} {δ : List S}
theorem keyL_rp : ∀ {xs : List D} {vs : List V} {k : List KO}, keyL xs = some k → RpL K G xs vs → vs = k.map vO
  | [], _, k, h, r => by
    cases r
    simp [keyL] at h
    subst h; rfl
  | x :: xs, _, k, h, r => by
    cases r with
    | cons r0 r =>
      unfold keyL at h
      cases e : keyO x with
      | none => rw [e] at h; simp at h
      | some a =>
        rw [e] at h
        cases e2 : keyL xs with
        | none => rw [e2] at h; simp at h
        | some l =>
          rw [e2] at h
          simp at h
          subst h
          rw [List.map_cons, keyL_rp e2 r, keyO_rp e r0]
theorem keyT_rp {x : D} {v : V} {k : List KO} (h : keyT x = some k) (r : Rp K G x v) : ∃ q, v = .ref q ∧ SqP K G q (k.map vO) := by
  cases r <;> simp only [keyT] at h <;> try (cases h; done)
  rename_i hp r
  exact ⟨_, rfl, by rw [← keyL_rp h r]; exact hp⟩
theorem RpT.length : ∀ {es : List (List KO × D)} {gs : List (List KO × Addr × V)}, RpT K G es gs → es.length = gs.length
  | _, _, .nil => rfl
  | _, _, .cons _ _ r => congrArg (· + 1) r.length
theorem RpT.keys : ∀ {es : List (List KO × D)} {gs : List (List KO × Addr × V)}, RpT K G es gs → KeysAt K G gs
  | _, _, .nil => fun g h => by simp at h
  | _, _, .cons q _ r => fun g h => by
    rcases List.mem_cons.mp h with rfl | h
    · exact q.t
    · exact r.keys g h
theorem KeysAt.mono {H : Hp} {gs : List (List KO × Addr × V)} (h : KeysAt K G gs) (e : Ex G H) : KeysAt K H gs := fun g hg => e.t (h g hg)
theorem RpT.val {k : List KO} : ∀ {es : List (List KO × D)} {gs : List (List KO × Addr × V)}, RpT K G es gs → match valTD es k, valT gs k with | some x, some v => Rp K G x v | none, none => True | _, _ => False
  | _, _, .nil => by simp [valTD, valT]
  | _, _, .cons (f := f) q h r => by
    have ih := r.val (k := k)
    unfold valTD valT at ih ⊢
    rw [List.find?_cons, List.find?_cons]
    by_cases e : f = k
    · rw [decide_eq_true e]; exact h
    · rw [decide_eq_false e]; exact ih
theorem RpT.getD {k : List KO} {es : List (List KO × D)} {gs : List (List KO × Addr × V)} {z : D} {w : V} (r : RpT K G es gs) (h : Rp K G z w) : Rp K G ((valTD es k).getD z) ((valT gs k).getD w) := by
  have q := r.val (k := k)
  cases e1 : valTD es k <;> cases e2 : valT gs k <;> rw [e1, e2] at q
  · exact h
  · exact q.elim
  · exact q.elim
  · exact q
theorem RpT.any {k : List KO} : ∀ {es : List (List KO × D)} {gs : List (List KO × Addr × V)}, RpT K G es gs → (es.any fun p => decide (p.1 = k)) = gs.any fun p => decide (p.1 = k)
  | _, _, .nil => rfl
  | _, _, .cons (f := f) q h r => by rw [List.any_cons, List.any_cons, r.any]
theorem RpT.mapPut {k : List KO} {x : D} {v : V} (hx : Rp K G x v) : ∀ {es : List (List KO × D)} {gs : List (List KO × Addr × V)}, RpT K G es gs → RpT K G (es.map fun p => if p.1 = k then (p.1, x) else p) (gs.map fun p => if p.1 = k then (p.1, p.2.1, v) else p)
  | _, _, .nil => .nil
  | _, _, .cons (f := f) q h r => by
    rw [List.map_cons, List.map_cons]
    by_cases e : f = k
    · rw [if_pos e, if_pos e]; exact .cons q hx (r.mapPut hx)
    · rw [if_neg e, if_neg e]; exact .cons q h (r.mapPut hx)
theorem RpT.app : ∀ {es fs : List (List KO × D)} {gs hs : List (List KO × Addr × V)}, RpT K G es gs → RpT K G fs hs → RpT K G (es ++ fs) (gs ++ hs)
  | _, _, _, _, .nil, s => s
  | _, _, _, _, .cons q h r, s => .cons q h (r.app s)
theorem RpT.put {k : List KO} {q : Addr} {x : D} {v : V} {es : List (List KO × D)} {gs : List (List KO × Addr × V)} (r : RpT K G es gs) (hq : SqP K G q (k.map vO)) (hx : Rp K G x v) : RpT K G (putTD es k x) (putT gs k q v) := by
  unfold putTD putT
  rw [r.any]
  split
  · exact r.mapPut hx
  · exact r.app (.cons hq hx .nil)
def asT : D → M (List (List KO × D)) | .dT es => .ok es | .dU es => .ok es | _ => .no
@[simp] theorem asT_dT {es : List (List KO × D)} : asT (.dT es) = .ok es := (rfl)
@[simp] theorem asT_dU {es : List (List KO × D)} : asT (.dU es) = .ok es := (rfl)
theorem asT_rp {x : D} {v : V} {es : List (List KO × D)} (h : asT x = .ok es) (r : Rp K G x v) : ∃ a og, v = .ref a ∧ Rd G a (DT a og) ∧ RpT K G es og.2 := by
  cases r <;> simp only [asT] at h <;> try (cases h; done)
  · rename_i hp r; cases h; exact ⟨_, _, rfl, .inr ⟨_, hp⟩, r⟩
  · rename_i hp r; cases h; exact ⟨_, _, rfl, .inl hp, r⟩
variable {te tk tv td : TE} {x y d : D} {k : List KO} {es : List (List KO × D)}
theorem ev_tget2 {z : D} (h1 : EV K td δ (.d d)) (hd : asT d = .ok es) (h2 : EV K tk δ (.d x)) (h3 : EV K tv δ (.d z)) (hk : keyT x = some k) : EV K (tTGet2 K td tk tv) δ (.d ((valTD es k).getD z)) := by
  intro He Ge H τo τs σ hl ok Q q
  refine h1 He Ge H τo τs σ hl ok _ fun v H1 ok1 => ?_
  obtain ⟨G1, okk⟩ := id ok1
  obtain ⟨_, e0, r0⟩ := okk.top
  cases e0
  obtain ⟨a, og, rfl, hp0, _⟩ := asT_rp hd r0
  refine ⟨a, og, rfl, okk.gh.rd hp0, ?_⟩
  refine h2 He Ge H1 (some (.ref a) :: τo) (.d d :: τs) σ (by simp [hl]) ok1 _ fun u H2 ok2 => ?_
  refine h3 He Ge H2 (some u :: some (.ref a) :: τo) (.d x :: .d d :: τs) σ (by simp [hl]) ok2 _ fun w H3 ⟨G, ok3⟩ => ?_
  obtain ⟨_, e1, r1⟩ := ok3.top
  obtain ⟨_, e2, r2⟩ := ok3.pop.top
  obtain ⟨_, e3, r3⟩ := ok3.pop.pop.top
  cases e1; cases e2; cases e3
  obtain ⟨a2, og2, e4, hp, rt⟩ := asT_rp hd r3
  cases e4
  obtain ⟨q1, rfl, hq⟩ := keyT_rp hk r2
  exact ⟨og2, q1, k, ok3.gh.rd hp, rt.keys.mono ok3.gh, rfl, ok3.gh.t hq.t, q _ _ ⟨G, ok3.pop.pop.pop.pushD (rt.getD r1)⟩⟩
theorem OKG.newT {He Ge H G : Hp} {σ : St} {δ : List S} {p : Addr} {og : Obj × List (List KO × Addr × V)} {xs : List (List KO × D)} (ok : OKG K He Ge H G σ δ) (hp : H p = none) (r : RpTS K G xs p og) : OKG K He Ge (upd H p (DT p og)) G (some (.ref p) :: σ) (.okt xs :: δ) := by
  refine (ok.newH hp).push ⟨p, og, rfl, ok.he.none hp, ok.gh.none hp, upd_same, r⟩ fun _ j t p' e hj ho eσ => ?_
  cases e
  obtain ⟨o, eo, k⟩ := ok.sl j t hj
  rw [eo] at eσ
  cases eσ
  cases t with
  | un => cases ho
  | ot _ _ _ => cases ho
  | d x => cases ho
  | own ys => obtain ⟨p', vs', e, _, _, h3, _⟩ := k; cases e; rw [hp] at h3; cases h3
  | okd ys => obtain ⟨p', vs', e, _, _, h3, _⟩ := k; cases e; rw [hp] at h3; cases h3
  | okt ys => obtain ⟨p', vs', e, _, _, h3, _⟩ := k; cases e; rw [hp] at h3; cases h3
  | oko ys => obtain ⟨p', vs', e, _, _, h3⟩ := k; cases e; rw [hp] at h3; cases h3
  | ob q C fs => obtain ⟨a, dx, gs, e, _, _, _, _, _, h5, _⟩ := k; cases e; rw [hp] at h5; cases h5
theorem ev_tnew : EV K tTNew δ (.okt []) := by
  intro He Ge H τo τs σ hl ⟨G, ok⟩ Q q
  exact fun p ob hp t => q _ _ ⟨G, ok.newT hp ⟨.nil, t⟩⟩
theorem hash_eq : ∀ {es : List (List KO × D)} {gs : List (List KO × Addr × V)}, RpT K G es gs → (gs.map fun g => hT g.1) = es.map fun p => hT p.1
  | _, _, .nil => rfl
  | _, _, .cons _ _ r => by rw [List.map_cons, List.map_cons, hash_eq r]
theorem ev_tcopyF (h : EV K te δ (.d d)) (hd : asT d = .ok es) (hn : (es.map fun p => hT p.1).Nodup) : EV K (tTCopyF K te) δ (.d (.dT es)) := by
  intro He Ge H τo τs σ hl ok Q q
  refine h He Ge H τo τs σ hl ok _ fun v H1 ⟨G, ok1⟩ => ?_
  obtain ⟨_, e1, r1⟩ := ok1.top
  cases e1
  obtain ⟨a, og, rfl, hp, rt⟩ := asT_rp hd r1
  refine ⟨a, og, rfl, ok1.gh.rd hp, rt.keys.mono ok1.gh, by rw [hash_eq rt]; exact hn, fun p ob od hp2 => q _ _ ⟨upd G p (.frz od (DT p (ob, og.2))), ?_⟩⟩
  have g1 : Ex G (upd G p (.frz od (DT p (ob, og.2)))) := .new (ok1.gh.none hp2)
  refine OKG.pushD (OKG.grow ok1.pop (.new hp2) g1 ok1.gh.both ⟨fun b b1 b2 => ?_, ok1.nc.tb, ok1.nc.tb.new hp2 g1⟩) (.dT upd_same (RpT.mono g1 rt))
  rw [upd_ne (fun z => b1 (by rw [z]; exact hp2))]; exact b2
variable {W : WX} {N B Ct : List S → Prop} {Rt : S → List S → Prop} {Xc : List S → Addr → List (Str × D) → Prop}
theorem sd_tput {i : Nat} (hi : δ[i]? = some (.okt es)) (h1 : EV K tv δ (.d y)) (h2 : EV K tk δ (.d x)) (hk : keyT x = some k) (hz : es.length < sizeLine) (n : N (δ.set i (.okt (putTD es k y)))) : SD K W (sTPut K (tVar i) tk tv) δ N Rt B Ct Xc := by
  intro He Ge H σ Dn ok nx r bk ct xx
  refine ev0 h1 ok fun v H1 ok1 => ?_
  obtain ⟨G1, okk⟩ := id ok1
  obtain ⟨o, eo, p, og, rfl, k1, k2, k3, k4⟩ := okk.pop.sl i _ hi
  refine ⟨_, eo, ?_⟩
  refine h2 He Ge H1 [some v] [.d y] σ rfl ok1 _ fun w H2 ⟨G, ok2⟩ => ?_
  obtain ⟨_, e1, r1⟩ := ok2.top
  obtain ⟨_, e2, r2⟩ := ok2.pop.top
  cases e1; cases e2
  obtain ⟨o2, eo2, p2, og2, e3, j1, j2, j3, j4⟩ := ok2.pop.pop.sl i _ hi
  have eo2 : σ[i]? = some o2 := eo2
  rw [eo] at eo2
  cases eo2; cases e3
  obtain ⟨q1, rfl, hq⟩ := keyT_rp hk r1
  exact ⟨p, og2, q1, k, rfl, j3, j4.r.keys.mono ok2.gh, rfl, ok2.gh.t hq.t, by rw [← j4.r.length]; exact hz, fun ob' t => nx _ _ _ ⟨G, OKG.changeT ok2.pop.pop hi eo j3 ⟨j4.r.put hq r2, t⟩⟩ n⟩
/-- from here on the dict in slot i is data, and locked -/
theorem OKG.freezeAtT {He Ge H G : Hp} {σ : St} {δ : List S} {kvs : List (List KO × D)} {i : Nat} (ok : OKG K He Ge H G σ δ) (hi : δ[i]? = some (.okt kvs)) : ∃ p vs, σ[i]? = some (some (.ref p)) ∧ H p = some (DT p vs) ∧ ∀ od, ∃ G', OKG K He Ge (upd H p (.frz od (DT p vs))) G' σ (δ.set i (.d (.dT kvs))) := by
  obtain ⟨o, eo, p, vs, rfl, h1, h2, h3, r⟩ := ok.sl i _ hi
  have hlt : i < δ.length := (List.getElem?_eq_some_iff.mp hi).1
  refine ⟨p, vs, eo, h3, fun od => ?_⟩
  have g1 : Ex G (upd G p (.frz od (DT p vs))) := .new h2
  refine ⟨upd G p (.frz od (DT p vs)), ok.ge.trans g1, ok.gh.both, ok.he.put h1, ⟨fun b b1 b2 => ?_, ok.nc.t0, ok.nc.tb.put (fun ps z => by rw [h3] at z; cases z) g1⟩, fun j s hj => ?_, fun j k s t p' hjk hj hk o1 o2 e1 e2 => ?_⟩
  · rw [upd_ne (fun z => b1 (by rw [z]; exact h1))]; exact ok.nc b b1 b2
  · by_cases z : i = j
    · subst z
      rw [List.getElem?_set_self hlt] at hj; cases hj
      exact ⟨_, eo, _, rfl, .dT upd_same (RpT.mono g1 r.r)⟩
    · rw [List.getElem?_set_ne z] at hj
      obtain ⟨o, e, k⟩ := ok.sl j s hj
      refine ⟨o, e, ?_⟩
      cases s with
      | un => trivial
      | ot _ _ _ => trivial
      | d x => obtain ⟨v, e1, r'⟩ := k; exact ⟨v, e1, r'.mono g1⟩
      | own ys =>
        obtain ⟨p2, vs2, rfl, k1, k2, k3, r2⟩ := k
        have ne : p2 ≠ p := fun y => ok.ne i j _ _ p z hi hj rfl rfl eo (by rw [← y]; exact e)
        exact ⟨p2, vs2, rfl, k1, by rw [upd_ne ne]; exact k2, by rw [upd_ne ne]; exact k3, r2.mono g1⟩
      | okd ys =>
        obtain ⟨p2, vs2, rfl, k1, k2, k3, r2⟩ := k
        have ne : p2 ≠ p := fun y => ok.ne i j _ _ p z hi hj rfl rfl eo (by rw [← y]; exact e)
        exact ⟨p2, vs2, rfl, k1, by rw [upd_ne ne]; exact k2, by rw [upd_ne ne]; exact k3, r2.mono g1⟩
      | okt ys =>
        obtain ⟨p2, vs2, rfl, k1, k2, k3, r2⟩ := k
        have ne : p2 ≠ p := fun y => ok.ne i j _ _ p z hi hj rfl rfl eo (by rw [← y]; exact e)
        exact ⟨p2, vs2, rfl, k1, by rw [upd_ne ne]; exact k2, by rw [upd_ne ne]; exact k3, r2.mono g1⟩
      | oko ys =>
        obtain ⟨p2, vs2, rfl, k1, k2, k3⟩ := k
        have ne : p2 ≠ p := fun y => ok.ne i j _ _ p z hi hj rfl rfl eo (by rw [← y]; exact e)
        exact ⟨p2, vs2, rfl, k1, by rw [upd_ne ne]; exact k2, by rw [upd_ne ne]; exact k3⟩
      | ob q C fs =>
        obtain ⟨a, dx, gs, rfl, kq, k1, k2, k3, k4, k5, k6, r'⟩ := k
        have n1 : a ≠ p := fun y => by rw [y, h3] at k5; cases k5
        have n2 : dx ≠ p := fun y => by rw [y, h3] at k6; cases k6
        exact ⟨a, dx, gs, rfl, kq, k1, by rw [upd_ne n1]; exact k2, k3, by rw [upd_ne n2]; exact k4, by rw [upd_ne n1]; exact k5, by rw [upd_ne n2]; exact k6, r'.mono g1⟩
  · have un : ∀ (m : Nat) (s : S), (δ.set i (.d (.dT kvs)))[m]? = some s → owned s = true → δ[m]? = some s := fun m s q1 q2 => by
      by_cases z : i = m
      · subst z; rw [List.getElem?_set_self hlt] at q1; cases q1; cases q2
      · rw [List.getElem?_set_ne z] at q1; exact q1
    exact ok.ne j k s t p' hjk (un j s hj o1) (un k t hk o2) o1 o2 e1 e2
end
end Far
namespace Far
open PySem L2
section
variable {K : PySem.W.Frag} {G : Hp} {δ : List S} {td : TE}
theorem RpL.kO : ∀ {k : List KO}, RpL K G (k.map dKO) (k.map vO)
  | [] => .nil
  | a :: k => .cons (rp_vO a) RpL.kO
theorem RpT.keyD : ∀ {es : List (List KO × D)} {gs : List (List KO × Addr × V)}, RpT K G es gs → RpL K G (es.map fun p => .tup (p.1.map dKO)) (gs.map fun g => .ref g.2.1)
  | _, _, .nil => .nil
  | _, _, .cons q _ r => .cons (.tup q RpL.kO) r.keyD
theorem jis_tkeys {a : Addr} {og : Obj × List (List KO × Addr × V)} (hp : Rd G a (DT a og)) : JIs G (ItT K a og) (og.2.map fun g => .ref g.2.1) := fun H e => by
  have h := e.rd hp
  refine ⟨fun i hi => ⟨h, by simpa using hi⟩, fun i x H' hy => ?_, fun i hi => ⟨h, by simpa using hi⟩⟩
  obtain ⟨rfl, g, hx, rfl⟩ := hy
  exact ⟨rfl, fun _ => by rw [List.getElem?_map, hx]; rfl⟩
theorem ei_tkeys {d : D} {es : List (List KO × D)} (h : EV K td δ (.d d)) (hd : asT d = .ok es) : EI K (iTKeys K td) δ (es.map fun p => .tup (p.1.map dKO)) := by
  intro He Ge H τo τs σ hl ok R q
  refine h He Ge H τo τs σ hl ok _ fun v H1 ⟨G, ok1⟩ => ?_
  obtain ⟨_, e0, r0⟩ := ok1.top
  cases e0
  obtain ⟨a, og, rfl, hp, rt⟩ := asT_rp hd r0
  exact ⟨a, og, rfl, ok1.gh.rd hp, q _ H1 G ok1.pop (jig_of rt.keyD (jis_tkeys hp))⟩
/-- two such dicts that are alike -/
def sameT : List (List KO × D) → List (List KO × D) → Bool
  | [], [] => true
  | (k, x) :: r, (l, y) :: t => decide (k = l) && (match keyT x, keyT y with | some u, some v => decide (u = v) | _, _ => false) && sameT r t
  | _, _ => false
theorem sameT_refl : ∀ {es : List (List KO × D)}, (∀ p ∈ es, (keyT p.2).isSome = true) → sameT es es = true
  | [], _ => rfl
  | (k, x) :: r, h => by
    have h1 := h (k, x) List.mem_cons_self
    rw [sameT, sameT_refl fun p hp => h p (List.mem_cons_of_mem _ hp)]
    cases e : keyT x with
    | none => rw [show keyT (k, x).2 = keyT x from rfl, e] at h1; cases h1
    | some u => simp
theorem SameT.mono {H : Hp} : ∀ {gs hs : List (List KO × Addr × V)}, SameT K G gs hs → Ex G H → SameT K H gs hs
  | _, _, .nil, _ => .nil
  | _, _, .cons ⟨a, q, r, u, e1, e2, t1, t2⟩ t, e => .cons ⟨a, q, r, u, e1, e2, e.t t1, e.t t2⟩ (SameT.mono t e)
end
section
variable {K : PySem.W.Frag} {δ : List S} {es : List (List KO × D)} {W : WX} {N B Ct : List S → Prop} {Rt : S → List S → Prop} {Xc : List S → Addr → List (Str × D) → Prop}
end
section
variable {Hy : PySem.W.Frag → Prop}
/-- d.get(k, z) -/
def SE.tget2 (o i c : SE Hy) : SE Hy where
  t K W := tTGet2 K (o.t K W) (i.t K W) (c.t K W)
  f δ := (o.fd δ).bin fun x => (asT x).bin fun es => (i.fd δ).bin fun y => (M.of (keyT y)).bin fun k => (c.fd δ).bin fun z => .ok (.d ((valTD es k).getD z))
  ok K hk W δ := by
    cases h1 : o.fd δ with
    | ok x =>
      cases h2 : asT x with
      | ok es =>
        cases h3 : i.fd δ with
        | ok y =>
          cases h4 : keyT y with
          | some k =>
            cases h5 : c.fd δ with
            | ok z =>
              simp only [M.ok_bin, h2, h3, h4, M.of_some, h5]
              exact ev_tget2 (o.okD hk h1) h2 (i.okD hk h3) (c.okD hk h5) h4
            | _ => simp only [M.ok_bin, h2, h3, h4, M.of_some, h5]; trivial
          | none => simp only [M.ok_bin, h2, h3, h4]; trivial
        | _ => simp only [M.ok_bin, h2, h3]; trivial
      | _ => simp only [M.ok_bin, h2]; trivial
    | _ => trivial
def SE.tnew : SE Hy := ⟨fun _ _ => tTNew, fun _ => .ok (.okt []), fun _ _ _ _ => ev_tnew⟩
def tcopyB (es : List (List KO × D)) : Bool := decide ((es.map fun p => hT p.1).Nodup)
/-- dict(d), data -/
def SE.tcopyF (e : SE Hy) : SE Hy where
  t K W := tTCopyF K (e.t K W)
  f δ := (e.fd δ).bin fun x => (asT x).bin fun es => if tcopyB es = true then .ok (.d (.dT es)) else .no
  ok K hk W δ := by
    cases h1 : e.fd δ with
    | ok x =>
      cases h2 : asT x with
      | ok es =>
        simp only [M.ok_bin, h2]
        by_cases z : tcopyB es = true
        · rw [if_pos z]; exact ev_tcopyF (e.okD hk h1) h2 (of_decide_eq_true z)
        · rw [if_neg z]; trivial
      | _ => simp only [M.ok_bin, h2]; trivial
    | _ => trivial
/-- slot i such a dict of one's own -/
def okT : List S → Nat → M (List (List KO × D))
  | .okt es :: _, 0 => .ok es
  | _ :: l, i + 1 => okT l i
  | _, _ => .no
@[simp] theorem okT_0 {l : List S} {es : List (List KO × D)} : okT (.okt es :: l) 0 = .ok es := (rfl)
theorem okT_s {l : List S} {s : S} {i : Nat} : okT (s :: l) (i + 1) = okT l i := by cases s <;> rfl
@[simp] theorem okT_s1 {s : S} {l : List S} {i : Nat} : okT (s :: l) (i + 1) = okT l i := okT_s
theorem okT_ok : ∀ {δ : List S} {i : Nat} {es : List (List KO × D)}, okT δ i = .ok es → δ[i]? = some (.okt es)
  | [], i, s, h => by cases i <;> cases h
  | a :: l, 0, s, h => by cases a <;> cases h; rfl
  | a :: l, i + 1, s, h => by rw [okT_s] at h; simpa using okT_ok h
/-- d[k] = e -/
def SS.tput (i : Nat) (kx e : SE Hy) : SS Hy where
  t K W := sTPut K (tVar i) (kx.t K W) (e.t K W)
  f δ := Fl.exn (okT δ i) fun es => Fl.exn (e.fd δ) fun y => Fl.exn (kx.fd δ) fun x => Fl.exn (.of (keyT x)) fun k => if es.length < sizeLine then .nx (δ.set i (.okt (putTD es k y))) else .no
  ok K hk W δ := by
    cases h1 : okT δ i with
    | ok es =>
      cases h2 : e.fd δ with
      | ok y =>
        cases h3 : kx.fd δ with
        | ok x =>
          cases h4 : keyT x with
          | some k =>
            simp only [Fl.ok_exn, h4, M.of_some]
            by_cases z : es.length < sizeLine
            · rw [if_pos z]; exact sd_tput (okT_ok h1) (e.okD hk h2) (kx.okD hk h3) h4 z rfl
            · rw [if_neg z]; trivial
          | none => simp only [Fl.ok_exn, h4]; trivial
        | _ => trivial
      | _ => trivial
    | _ => trivial
def frzTF (m : M (List (List KO × D))) (δ : List S) (i : Nat) (f : List S → Fl) : Fl := match m with | .ok xs => f (δ.set i (.d (.dT xs))) | _ => .no
@[simp] theorem frzTF_ok {xs : List (List KO × D)} {δ : List S} {i : Nat} {f : List S → Fl} : frzTF (.ok xs) δ i f = f (δ.set i (.d (.dT xs))) := (rfl)
/-- from here on the dict in slot i is data, and locked -/
def SS.frzT (i : Nat) (a : SS Hy) : SS Hy where
  t K W := tLockP i (a.t K W)
  f δ := frzTF (okT δ i) δ i a.f
  ok K hk W δ := by
    cases h : okT δ i with
    | ok xs =>
      refine sdf_of fun n => fun He Ge H σ Dn ⟨G, ok⟩ nx r bk ct xx => ?_
      obtain ⟨p, vs, e1, e2, k⟩ := ok.freezeAtT (okT_ok h)
      refine ⟨p, _, e1, e2, trivial, fun od => ?_⟩
      obtain ⟨G', ok'⟩ := k od
      exact a.okR hk n He Ge _ σ Dn ⟨G', ok'⟩ nx r bk ct xx
    | _ => trivial
/-- for k in d -/
def SI.tkeys (a : SE Hy) : SI Hy where
  t K W := iTKeys K (a.t K W)
  f δ := (a.fd δ).bin fun x => (asT x).bin fun es => .ok (es.map fun p => .tup (p.1.map dKO))
  ok K hk W δ := by
    cases h : a.fd δ with
    | ok x =>
      cases h2 : asT x with
      | ok es =>
        simp only [M.ok_bin, h2]
        exact ei_tkeys (a.okD hk h) h2
      | _ => simp only [M.ok_bin, h2]; trivial
    | _ => trivial
/-- d[k] -/
def rIxT2 (K : PySem.W.Frag) : R2 := fun x y H Q => rIx K x y H Q ∨ rTIx K x y H Q
theorem ix_T2 {X : Cx} (h : IxR X (rIx X.K)) (hu : X.A.units + 64 < cLine) : IxR X (rIxT2 X.K) := by
  intro value slice pins s σ H x y v u Q I rx ry r hs
  rcases r with r | r
  · exact h value slice pins s σ H x y v u Q I rx ry r hs
  · exact ix_T hu value slice pins s σ H x y v u Q I rx ry r hs
def ixTF (x y : D) : Option S := match asT x, keyT y with
  | .ok es, some k => (valTD es k).map .d
  | _, _ => ixF x y
def oIxT : O2 where
  r K := rIxT2 K
  f := ixTF
  ok K x y s h := by
    unfold ixTF at h
    split at h
    · rename_i es k h1 h2
      obtain ⟨w, e, rfl⟩ := Option.map_eq_some_iff.mp h
      intro He Ge H G σ δ v u ok rv ru Q q
      obtain ⟨a, og, rfl, hp, rt⟩ := asT_rp h1 rv
      obtain ⟨q1, rfl, hq⟩ := keyT_rp h2 ru
      have z := rt.val (k := k)
      rw [e] at z
      cases e2 : valT og.2 k with
      | none => rw [e2] at z; exact z.elim
      | some w2 =>
        rw [e2] at z
        exact .inr ⟨a, og, q1, k, w2, rfl, rfl, ok.gh.rd hp, rt.keys.mono ok.gh, ok.gh.t hq.t, e2, q _ _ (done ok z)⟩
    · exact fun He Ge H G σ δ v u ok rv ru Q q => .inl (oIx.ok K _ _ s h He Ge H G σ δ v u ok rv ru Q q)
@[simp] theorem oIxT_f : oIxT.f = ixTF := (rfl)
@[simp] theorem ixTF_dT {es : List (List KO × D)} {y : D} : ixTF (.dT es) y = match keyT y with | some k => (valTD es k).map .d | none => ixF (.dT es) y := by unfold ixTF; rw [asT_dT]; cases keyT y <;> rfl
@[simp] theorem ixTF_dU {es : List (List KO × D)} {y : D} : ixTF (.dU es) y = match keyT y with | some k => (valTD es k).map .d | none => ixF (.dU es) y := by unfold ixTF; rw [asT_dU]; cases keyT y <;> rfl
variable {δ : List S}
@[simp] theorem SE.tget2_f (o i c : SE Hy) : (SE.tget2 o i c).f δ = (o.fd δ).bin fun x => (asT x).bin fun es => (i.fd δ).bin fun y => (M.of (keyT y)).bin fun k => (c.fd δ).bin fun z => .ok (.d ((valTD es k).getD z)) := (rfl)
@[simp] theorem SE.tnew_f : (SE.tnew : SE Hy).f δ = .ok (.okt []) := (rfl)
@[simp] theorem SE.tcopyF_f (e : SE Hy) : (SE.tcopyF e).f δ = (e.fd δ).bin fun x => (asT x).bin fun es => if tcopyB es = true then .ok (.d (.dT es)) else .no := (rfl)
@[simp] theorem SS.tput_f (i : Nat) (kx e : SE Hy) : (SS.tput i kx e).f δ = Fl.exn (okT δ i) fun es => Fl.exn (e.fd δ) fun y => Fl.exn (kx.fd δ) fun x => Fl.exn (.of (keyT x)) fun k => if es.length < sizeLine then .nx (δ.set i (.okt (putTD es k y))) else .no := (rfl)
@[simp] theorem SS.frzT_f (i : Nat) (a : SS Hy) : (SS.frzT i a).f δ = frzTF (okT δ i) δ i a.f := (rfl)
@[simp] theorem SI.tkeys_f (a : SE Hy) : (SI.tkeys a).f δ = (a.fd δ).bin fun x => (asT x).bin fun es => .ok (es.map fun p => .tup (p.1.map dKO)) := (rfl)
@[simp] theorem keyT_2 {a b : D} : keyT (.tup [a, b]) = (keyO a).bind fun x => (keyO b).map fun y => [x, y] := by
  show keyL [a, b] = _
  cases h1 : keyO a <;> cases h2 : keyO b <;> simp [keyL, h1, h2]
/-- return, in a method that changes its object -/
def SS.retNO : SS Hy := ⟨fun _ _ => tRetN, fun δ => .rto (.d .non) δ, fun _ _ _ _ => sd_retN (.inr rfl)⟩
@[simp] theorem SS.retNO_f : (SS.retNO : SS Hy).f δ = .rto (.d .non) δ := (rfl)
/-- a while by a measure: what its end may be -/
theorem whF_ex {α : Type} {c : List S → M Bool} {body : List S → Fl} {vs : List Nat} (I : α → List S) (P : α → Prop) (μ : α → Nat) (R : Fl → Prop)
    (k : ∀ a, P a → (c (I a) = .ok false ∧ R (.nx (I a))) ∨ (c (I a) = .ok true ∧ ((∃ a', P a' ∧ μ a' < μ a ∧ ∃ δ2, (body (I a) = .nx δ2 ∨ body (I a) = .ct δ2) ∧ wpF vs δ2 = I a') ∨ (∃ s δ2, body (I a) = .rto s δ2 ∧ R (.rto s δ2))))) :
    ∀ a, P a → ∃ r, R r ∧ whF c body vs (I a) = r := by
  have main : ∀ n a, P a → μ a < n → ∃ r, R r ∧ whN c body vs n (I a) = some r := by
    intro n
    induction n with
    | zero => intro a _ h; omega
    | succ n ih =>
      intro a pa hm
      unfold whN
      rcases k a pa with ⟨h1, h2⟩ | ⟨h1, h2⟩
      · rw [h1]; exact ⟨_, h2, rfl⟩
      · rw [h1]
        rcases h2 with ⟨a', pa', hl, δ2, hb, hw⟩ | ⟨s, δ2, hb, hr⟩
        · rcases hb with hb | hb <;> simp only [hb] <;> rw [hw] <;> exact ih a' pa' (by omega)
        · simp only [hb]; exact ⟨_, hr, rfl⟩
  intro a pa
  obtain ⟨r, h1, h2⟩ := main (μ a + 1) a pa (by omega)
  exact ⟨r, h1, whF_of h2⟩
end
end Far
namespace Far
open PySem L2
abbrev Zs.FarError (Z : Zs) : Addr := Z.f 0
abbrev Zs.NoPlace (Z : Zs) : Addr := Z.f 1
abbrev Zs.NoRow (Z : Zs) : Addr := Z.f 2
abbrev Zs.NoWalker (Z : Zs) : Addr := Z.f 3
abbrev Zs.NoState (Z : Zs) : Addr := Z.f 4
abbrev Zs.Row (Z : Zs) : Addr := Z.f 5
abbrev Zs.Walker (Z : Zs) : Addr := Z.f 6
abbrev Zs.Going (Z : Zs) : Addr := Z.f 7
class ZF (K : PySem.W.Frag) (Z : Zs) : Prop where
  triv : True
  exc_NoPlace : ExcC K Z.NoPlace
  exc_NoRow : ExcC K Z.NoRow
  exc_NoState : ExcC K Z.NoState
  exc_NoWalker : ExcC K Z.NoWalker
  ins_Row : InsC K Z.Row
  na_Row_left : NoAttr K Z.Row "left"
  na_Row_middle : NoAttr K Z.Row "middle"
  na_Row_first : NoAttr K Z.Row "first"
  na_Row_right : NoAttr K Z.Row "right"
  ins_Walker : InsC K Z.Walker
  na_Walker_states : NoAttr K Z.Walker "states"
  na_Walker_table : NoAttr K Z.Walker "table"
  ins_Going : InsC K Z.Going
  na_Going_walker : NoAttr K Z.Going "walker"
  na_Going_state : NoAttr K Z.Going "state"
  na_Going_goal : NoAttr K Z.Going "goal"
  na_Going_done : NoAttr K Z.Going "done"
def HY (Z : Zs) (K : PySem.W.Frag) : Prop := ZF K Z
def TB (Z : Zs) : Tab := ⟨[Z.Row, Z.Walker, Z.Going], [Z.NoPlace, Z.NoRow, Z.NoState, Z.NoWalker], [], [], []⟩
theorem TB_ok (Z : Zs) : (TB Z).Ok (HY Z) := fun K hk => haveI : ZF K Z := hk
  ⟨(fm_cons ZF.ins_Row (fm_cons ZF.ins_Walker (fm_cons ZF.ins_Going fm_nil))), (fm_cons ZF.exc_NoPlace (fm_cons ZF.exc_NoRow (fm_cons ZF.exc_NoState (fm_cons ZF.exc_NoWalker fm_nil)))), fm_nil, fm_nil, fm_nil⟩
def fc_done (Z : Zs) : List Addr := [Z.Going]
theorem fo_done (Z : Zs) : FldOk (HY Z) "done" (fc_done Z) := (fo_cons (fun K hk => haveI : ZF K Z := hk; ⟨(ZF.ins_Going).cl, ZF.na_Going_done⟩) fo_nil)
def fc_first (Z : Zs) : List Addr := [Z.Row]
theorem fo_first (Z : Zs) : FldOk (HY Z) "first" (fc_first Z) := (fo_cons (fun K hk => haveI : ZF K Z := hk; ⟨(ZF.ins_Row).cl, ZF.na_Row_first⟩) fo_nil)
def fc_goal (Z : Zs) : List Addr := [Z.Going]
theorem fo_goal (Z : Zs) : FldOk (HY Z) "goal" (fc_goal Z) := (fo_cons (fun K hk => haveI : ZF K Z := hk; ⟨(ZF.ins_Going).cl, ZF.na_Going_goal⟩) fo_nil)
def fc_left (Z : Zs) : List Addr := [Z.Row]
theorem fo_left (Z : Zs) : FldOk (HY Z) "left" (fc_left Z) := (fo_cons (fun K hk => haveI : ZF K Z := hk; ⟨(ZF.ins_Row).cl, ZF.na_Row_left⟩) fo_nil)
def fc_middle (Z : Zs) : List Addr := [Z.Row]
theorem fo_middle (Z : Zs) : FldOk (HY Z) "middle" (fc_middle Z) := (fo_cons (fun K hk => haveI : ZF K Z := hk; ⟨(ZF.ins_Row).cl, ZF.na_Row_middle⟩) fo_nil)
def fc_right (Z : Zs) : List Addr := [Z.Row]
theorem fo_right (Z : Zs) : FldOk (HY Z) "right" (fc_right Z) := (fo_cons (fun K hk => haveI : ZF K Z := hk; ⟨(ZF.ins_Row).cl, ZF.na_Row_right⟩) fo_nil)
def fc_state (Z : Zs) : List Addr := [Z.Going]
theorem fo_state (Z : Zs) : FldOk (HY Z) "state" (fc_state Z) := (fo_cons (fun K hk => haveI : ZF K Z := hk; ⟨(ZF.ins_Going).cl, ZF.na_Going_state⟩) fo_nil)
def fc_states (Z : Zs) : List Addr := [Z.Walker]
theorem fo_states (Z : Zs) : FldOk (HY Z) "states" (fc_states Z) := (fo_cons (fun K hk => haveI : ZF K Z := hk; ⟨(ZF.ins_Walker).cl, ZF.na_Walker_states⟩) fo_nil)
def fc_table (Z : Zs) : List Addr := [Z.Walker]
theorem fo_table (Z : Zs) : FldOk (HY Z) "table" (fc_table Z) := (fo_cons (fun K hk => haveI : ZF K Z := hk; ⟨(ZF.ins_Walker).cl, ZF.na_Walker_table⟩) fo_nil)
def fc_walker (Z : Zs) : List Addr := [Z.Going]
theorem fo_walker (Z : Zs) : FldOk (HY Z) "walker" (fc_walker Z) := (fo_cons (fun K hk => haveI : ZF K Z := hk; ⟨(ZF.ins_Going).cl, ZF.na_Going_walker⟩) fo_nil)
def N_is_place : List Str := ["thing"]
noncomputable def b_is_place (Z : Zs) : SS (HY Z) :=
  (.ret (.andE (.cb (bIsi (TB Z) (TB_ok Z)) (.cons (.var 0) (.cons (.ty "int") .nil))) (.notE (.cb (bIsi (TB Z) (TB_ok Z)) (.cons (.var 0) (.cons (.ty "bool") .nil))))))
noncomputable def F_is_place (Z : Zs) : List D → M S := runF (b_is_place Z) 1 1
theorem F_is_place_eq {Z : Zs} {x0 : D} : F_is_place Z [x0] = fin ((b_is_place Z).f [.d x0]) := by kernel_rfl
def N_is_value : List Str := ["thing"]
noncomputable def b_is_value (Z : Zs) : SS (HY Z) :=
  (.ret (.orE (.op oIsN (.var 0) .non) (.call (F_is_place Z) (.cons (.var 0) .nil))))
noncomputable def F_is_value (Z : Zs) : List D → M S := runF (b_is_value Z) 1 1
theorem F_is_value_eq {Z : Zs} {x0 : D} : F_is_value Z [x0] = fin ((b_is_value Z).f [.d x0]) := by kernel_rfl
def N_are_values : List Str := ["things", "fewest", "thing"]
noncomputable def b_are_values (Z : Zs) : SS (HY Z) :=
  (.seq (.ite (.or (.not (.tru (.cb (bIsi (TB Z) (TB_ok Z)) (.cons (.var 0) (.cons (.tup (.cons (.ty "tuple") (.cons (.ty "list") .nil))) .nil))))) (.not (.of (.chain oLe oLe (.var 1) (.cb bLen (.cons (.var 0) .nil)) (.int 4000)))))
  (.ret (.bl false))
  .skip)
  (.ret (.cb bAll (.cons (.lc (.seq (.var 0)) (.name 2) .yes (.call (F_is_value Z) (.cons (.var 2) .nil)) [2]) .nil))))
noncomputable def F_are_values (Z : Zs) : List D → M S := runF (b_are_values Z) 3 2
theorem F_are_values_eq {Z : Zs} {x0 x1 : D} : F_are_values Z [x0, x1] = fin ((b_are_values Z).f [.d x0, .d x1, .un]) := by kernel_rfl
def N_need_place : List Str := ["thing"]
noncomputable def b_need_place (Z : Zs) : SS (HY Z) :=
  (.ite (.not (.tru (.call (F_is_place Z) (.cons (.var 0) .nil))))
  (.raise Z.NoPlace)
  .skip)
noncomputable def F_need_place (Z : Zs) : List D → M S := runF (b_need_place Z) 1 1
theorem F_need_place_eq {Z : Zs} {x0 : D} : F_need_place Z [x0] = fin ((b_need_place Z).f [.d x0]) := by kernel_rfl
def N_Row_init : List Str := ["self", "left", "middle", "first", "right"]
noncomputable def b_Row_init (Z : Zs) : SS (HY Z) :=
  (.seq (.ite (.or (.not (.tru (.call (F_are_values Z) (.cons (.var 1) (.cons (.int 1) .nil))))) (.or (.not (.tru (.call (F_are_values Z) (.cons (.var 2) (.cons (.int 0) .nil))))) (.or (.not (.tru (.call (F_is_place Z) (.cons (.var 3) .nil)))) (.not (.tru (.call (F_are_values Z) (.cons (.var 4) (.cons (.int 1) .nil))))))))
  (.raise Z.NoRow)
  .skip)
  (.seq (.setF 0 "left" (fc_left Z) (fo_left Z) (.cb bTuple (.cons (.var 1) .nil)))
  (.seq (.setF 0 "middle" (fc_middle Z) (fo_middle Z) (.cb bTuple (.cons (.var 2) .nil)))
  (.seq (.setF 0 "first" (fc_first Z) (fo_first Z) (.var 3))
  (.setF 0 "right" (fc_right Z) (fo_right Z) (.cb bTuple (.cons (.var 4) .nil)))))))
noncomputable def F_Row_init (Z : Zs) : Addr → List D → M (List (Str × D)) := runI (b_Row_init Z) 5 5 Z.Row
theorem F_Row_init_eq {Z : Zs} {a : Addr} {x0 x1 x2 x3 : D} : F_Row_init Z a [x0, x1, x2, x3] = finI a Z.Row ((b_Row_init Z).f [.ob (some a) Z.Row [], .d x0, .d x1, .d x2, .d x3]) := by kernel_rfl
def N_Row_told : List Str := ["self"]
noncomputable def b_Row_told (Z : Zs) : SS (HY Z) :=
  (.ret (.tup (.cons (.fld "left" (fc_left Z) (fo_left Z) (.var 0)) (.cons (.fld "middle" (fc_middle Z) (fo_middle Z) (.var 0)) (.cons (.fld "first" (fc_first Z) (fo_first Z) (.var 0)) (.cons (.fld "right" (fc_right Z) (fo_right Z) (.var 0)) .nil))))))
noncomputable def F_Row_told (Z : Zs) : List D → M S := runF (b_Row_told Z) 1 1
theorem F_Row_told_eq {Z : Zs} {x0 : D} : F_Row_told Z [x0] = fin ((b_Row_told Z).f [.d x0]) := by kernel_rfl
def N_is_between : List Str := ["thing", "least", "most"]
noncomputable def b_is_between (Z : Zs) : SS (HY Z) :=
  (.ret (.andE (.call (F_is_place Z) (.cons (.var 0) .nil)) (.chain oLe oLe (.var 1) (.var 0) (.var 2))))
noncomputable def F_is_between (Z : Zs) : List D → M S := runF (b_is_between Z) 3 3
theorem F_is_between_eq {Z : Zs} {x0 x1 x2 : D} : F_is_between Z [x0, x1, x2] = fin ((b_is_between Z).f [.d x0, .d x1, .d x2]) := by kernel_rfl
def N_is_pair : List Str := ["thing", "many"]
noncomputable def b_is_pair (Z : Zs) : SS (HY Z) :=
  (.seq (.ite (.or (.not (.tru (.cb (bIsi (TB Z) (TB_ok Z)) (.cons (.var 0) (.cons (.ty "tuple") .nil))))) (.of (.op oNe (.cb bLen (.cons (.var 0) .nil)) (.int 2))))
  (.ret (.bl false))
  .skip)
  (.ret (.andE (.call (F_is_between Z) (.cons (.op oIx (.var 0) (.int 0)) (.cons (.int 0) (.cons (.op oSub (.var 1) (.int 1)) .nil)))) (.call (F_is_value Z) (.cons (.op oIx (.var 0) (.int 1)) .nil)))))
noncomputable def F_is_pair (Z : Zs) : List D → M S := runF (b_is_pair Z) 2 2
theorem F_is_pair_eq {Z : Zs} {x0 x1 : D} : F_is_pair Z [x0, x1] = fin ((b_is_pair Z).f [.d x0, .d x1]) := by kernel_rfl
def N_is_table : List Str := ["thing", "many", "key"]
noncomputable def b_is_table (Z : Zs) : SS (HY Z) :=
  (.seq (.ite (.not (.tru (.cb (bIsi (TB Z) (TB_ok Z)) (.cons (.var 0) (.cons (.ty "dict") .nil)))))
  (.ret (.bl false))
  .skip)
  (.ret (.cb bAll (.cons (.lc (.tkeys (.var 0)) (.name 2) .yes (.andE (.call (F_is_pair Z) (.cons (.var 2) (.cons (.var 1) .nil))) (.call (F_is_pair Z) (.cons (.op oIxT (.var 0) (.var 2)) (.cons (.var 1) .nil)))) [2]) .nil))))
noncomputable def F_is_table (Z : Zs) : List D → M S := runF (b_is_table Z) 3 2
theorem F_is_table_eq {Z : Zs} {x0 x1 : D} : F_is_table Z [x0, x1] = fin ((b_is_table Z).f [.d x0, .d x1, .un]) := by kernel_rfl
def N_Walker_init : List Str := ["self", "states", "table"]
noncomputable def b_Walker_init (Z : Zs) : SS (HY Z) :=
  (.seq (.ite (.or (.not (.tru (.call (F_is_between Z) (.cons (.var 1) (.cons (.int 1) (.cons (.int 30) .nil)))))) (.not (.tru (.call (F_is_table Z) (.cons (.var 2) (.cons (.var 1) .nil))))))
  (.raise Z.NoWalker)
  .skip)
  (.seq (.setF 0 "states" (fc_states Z) (fo_states Z) (.var 1))
  (.setF 0 "table" (fc_table Z) (fo_table Z) (.tcopyF (.var 2)))))
noncomputable def F_Walker_init (Z : Zs) : Addr → List D → M (List (Str × D)) := runI (b_Walker_init Z) 3 3 Z.Walker
theorem F_Walker_init_eq {Z : Zs} {a : Addr} {x0 x1 : D} : F_Walker_init Z a [x0, x1] = finI a Z.Walker ((b_Walker_init Z).f [.ob (some a) Z.Walker [], .d x0, .d x1]) := by kernel_rfl
def N_Walker_step : List Str := ["self", "state", "value"]
noncomputable def b_Walker_step (Z : Zs) : SS (HY Z) :=
  (.ret (.tget2 (.fld "table" (fc_table Z) (fo_table Z) (.var 0)) (.tup (.cons (.var 1) (.cons (.var 2) .nil))) (.tup (.cons (.var 1) (.cons (.var 2) .nil)))))
noncomputable def F_Walker_step (Z : Zs) : List D → M S := runF (b_Walker_step Z) 3 3
theorem F_Walker_step_eq {Z : Zs} {x0 x1 x2 : D} : F_Walker_step Z [x0, x1, x2] = fin ((b_Walker_step Z).f [.d x0, .d x1, .d x2]) := by kernel_rfl
def N_need_state : List Str := ["walker", "thing"]
noncomputable def b_need_state (Z : Zs) : SS (HY Z) :=
  (.ite (.not (.tru (.call (F_is_between Z) (.cons (.var 1) (.cons (.int 0) (.cons (.op oSub (.fld "states" (fc_states Z) (fo_states Z) (.var 0)) (.int 1)) .nil))))))
  (.raise Z.NoState)
  .skip)
noncomputable def F_need_state (Z : Zs) : List D → M S := runF (b_need_state Z) 2 2
theorem F_need_state_eq {Z : Zs} {x0 x1 : D} : F_need_state Z [x0, x1] = fin ((b_need_state Z).f [.d x0, .d x1]) := by kernel_rfl
def N_stretches : List Str := ["row", "place", "behind", "found", "turn", "ends", "values", "begin", "end", "last"]
noncomputable def b_stretches_l1 (Z : Zs) : SS (HY Z) :=
  (.seq (.setD 9 (.ifE (.of (.op oIsN (.var 2) .non)) (.var 8) (.cb bMin2 (.cons (.var 8) (.cons (.var 2) .nil)))))
  (.ite (.of (.op oLt (.var 1) (.var 9)))
  (.seq (.app 3 (.tup (.cons (.var 6) (.cons (.op oMod (.op oSub (.var 1) (.var 7)) (.cb bLen (.cons (.var 6) .nil))) (.cons (.op oSub (.var 9) (.var 1)) .nil)))))
  (.setD 1 (.var 9)))
  .skip))
noncomputable def b_stretches (Z : Zs) : SS (HY Z) :=
  (.seq (.set 3 (.lst .nil))
  (.seq (.setD 4 (.op oAdd (.fld "first" (fc_first Z) (fo_first Z) (.var 0)) (.cb bLen (.cons (.fld "middle" (fc_middle Z) (fo_middle Z) (.var 0)) .nil))))
  (.seq (.setD 5 (.lst (.cons (.tup (.cons (.fld "left" (fc_left Z) (fo_left Z) (.var 0)) (.cons (.fld "first" (fc_first Z) (fo_first Z) (.var 0)) (.cons (.fld "first" (fc_first Z) (fo_first Z) (.var 0)) .nil)))) (.cons (.tup (.cons (.fld "middle" (fc_middle Z) (fo_middle Z) (.var 0)) (.cons (.fld "first" (fc_first Z) (fo_first Z) (.var 0)) (.cons (.var 4) .nil)))) .nil))))
  (.seq (.forS (.seq (.var 5)) (.seq 3 (.cons 6 (.cons 7 (.cons 8 .nil)))) [6, 7, 8, 9] (b_stretches_l1 Z))
  (.seq (.ite (.of (.op oIsN (.var 2) .non))
  (.app 3 (.tup (.cons (.fld "right" (fc_right Z) (fo_right Z) (.var 0)) (.cons (.op oMod (.op oSub (.var 1) (.var 4)) (.cb bLen (.cons (.fld "right" (fc_right Z) (fo_right Z) (.var 0)) .nil))) (.cons .non .nil)))))
  (.ite (.of (.op oLt (.var 1) (.var 2)))
  (.app 3 (.tup (.cons (.fld "right" (fc_right Z) (fo_right Z) (.var 0)) (.cons (.op oMod (.op oSub (.var 1) (.var 4)) (.cb bLen (.cons (.fld "right" (fc_right Z) (fo_right Z) (.var 0)) .nil))) (.cons (.op oSub (.var 2) (.var 1)) .nil)))))
  .skip))
  (.frz 3 (.ret (.var 3))))))))
noncomputable def F_stretches (Z : Zs) : List D → M S := runF (b_stretches Z) 10 3
theorem F_stretches_eq {Z : Zs} {x0 x1 x2 : D} : F_stretches Z [x0, x1, x2] = fin ((b_stretches Z).f [.d x0, .d x1, .d x2, .un, .un, .un, .un, .un, .un, .un]) := by kernel_rfl
def N_Going_init : List Str := ["self", "walker", "state", "goal"]
noncomputable def b_Going_init (Z : Zs) : SS (HY Z) :=
  (.seq (.setF 0 "walker" (fc_walker Z) (fo_walker Z) (.var 1))
  (.seq (.setF 0 "state" (fc_state Z) (fo_state Z) (.var 2))
  (.seq (.setF 0 "goal" (fc_goal Z) (fo_goal Z) (.var 3))
  (.setF 0 "done" (fc_done Z) (fo_done Z) (.int 0)))))
noncomputable def Fm_Going_init (Z : Zs) : Addr → List (Str × D) → List D → MR := runM (b_Going_init Z) 4 4 Z.Going
theorem Fm_Going_init_eq {Z : Zs} {a : Addr} {fs : List (Str × D)} {x0 x1 x2 : D} : Fm_Going_init Z a fs [x0, x1, x2] = finM a Z.Going ((b_Going_init Z).f [.ob (some a) Z.Going fs, .d x0, .d x1, .d x2]) := by kernel_rfl
noncomputable def F_Going_init (Z : Zs) : List (Str × D) → List D → MR := mR (Fm_Going_init Z)
def N_Going_is_there : List Str := ["self"]
noncomputable def b_Going_is_there (Z : Zs) : SS (HY Z) :=
  (.ret (.op oEq (.fld "state" (fc_state Z) (fo_state Z) (.var 0)) (.fld "goal" (fc_goal Z) (fo_goal Z) (.var 0))))
noncomputable def F_Going_is_there (Z : Zs) : List D → M S := runF (b_Going_is_there Z) 1 1
theorem F_Going_is_there_eq {Z : Zs} {x0 : D} : F_Going_is_there Z [x0] = fin ((b_Going_is_there Z).f [.d x0]) := by kernel_rfl
def N_Going_pass_cell : List Str := ["self", "value"]
noncomputable def b_Going_pass_cell (Z : Zs) : SS (HY Z) :=
  (.seq (.setF 0 "state" (fc_state Z) (fo_state Z) (.lendO [Z.Going] true (.op oIx (.meth Z.Walker "step" (F_Walker_step Z) (.fld "walker" (fc_walker Z) (fo_walker Z) (.var 0)) (.cons (.fld "state" (fc_state Z) (fo_state Z) (.var 0)) (.cons (.var 1) .nil))) (.int 0))))
  (.augF 0 "done" (fc_done Z) (fo_done Z) fAdd (.int 1)))
noncomputable def Fm_Going_pass_cell (Z : Zs) : Addr → List (Str × D) → List D → MR := runM (b_Going_pass_cell Z) 2 2 Z.Going
theorem Fm_Going_pass_cell_eq {Z : Zs} {a : Addr} {fs : List (Str × D)} {x0 : D} : Fm_Going_pass_cell Z a fs [x0] = finM a Z.Going ((b_Going_pass_cell Z).f [.ob (some a) Z.Going fs, .d x0]) := by kernel_rfl
noncomputable def F_Going_pass_cell (Z : Zs) : List (Str × D) → List D → MR := mR (Fm_Going_pass_cell Z)
def N_Going_go : List Str := ["self", "stretch", "values", "begin", "many", "seen", "round_of"]
noncomputable def b_Going_go_l1 (Z : Zs) : SS (HY Z) :=
  (.seq (.ite (.lendO [Z.Going] false (.and (.of (.op oEq (.op oMod (.fld "done" (fc_done Z) (fo_done Z) (.var 0)) (.cb bLen (.cons (.var 2) .nil))) (.int 0))) (.ofB (.din (.fld "state" (fc_state Z) (fo_state Z) (.var 0)) (.var 5)))))
  (.seq (.ite (.of (.op oIsN (.var 4) .non))
  .retNO
  .skip)
  (.frzK 5 (.seq (.setD 6 (.lendO [Z.Going] true (.op oSub (.fld "done" (fc_done Z) (fo_done Z) (.var 0)) (.dget (.var 5) (.fld "state" (fc_state Z) (fo_state Z) (.var 0))))))
  (.seq (.augF 0 "done" (fc_done Z) (fo_done Z) fAdd (.lendO [Z.Going] false (.op oMul (.op oDiv (.op oSub (.var 4) (.fld "done" (fc_done Z) (fo_done Z) (.var 0))) (.var 6)) (.var 6))))
  (.seq (.set 5 .dnewO)
  (.ite (.lendO [Z.Going] false (.of (.op oEq (.fld "done" (fc_done Z) (fo_done Z) (.var 0)) (.var 4))))
  .retNO
  .skip))))))
  .skip)
  (.seq (.ite (.lendO [Z.Going] false (.of (.op oEq (.op oMod (.fld "done" (fc_done Z) (fo_done Z) (.var 0)) (.cb bLen (.cons (.var 2) .nil))) (.int 0))))
  (.dput 5 (.lendO [Z.Going] false (.fld "state" (fc_state Z) (fo_state Z) (.var 0))) (.lendO [Z.Going] false (.fld "done" (fc_done Z) (fo_done Z) (.var 0))))
  .skip)
  (.dropX (.meth 0 Z.Going "pass_cell" (F_Going_pass_cell Z) (.cons (.lendO [Z.Going] false (.op oIx (.var 2) (.op oMod (.op oAdd (.var 3) (.fld "done" (fc_done Z) (fo_done Z) (.var 0))) (.cb bLen (.cons (.var 2) .nil))))) .nil)))))
noncomputable def b_Going_go (Z : Zs) : SS (HY Z) :=
  (.seq (.asg (.var 1) (.seq 3 (.cons 2 (.cons 3 (.cons 4 .nil)))))
  (.seq (.setF 0 "done" (fc_done Z) (fo_done Z) (.int 0))
  (.seq (.set 5 .dnewO)
  (.whileS (.lendO [Z.Going] false (.and (.not (.tru (.meth Z.Going "is_there" (F_Going_is_there Z) (.var 0) .nil))) (.or (.of (.op oIsN (.var 4) .non)) (.of (.op oLt (.fld "done" (fc_done Z) (fo_done Z) (.var 0)) (.var 4)))))) [6] (b_Going_go_l1 Z)))))
noncomputable def Fm_Going_go (Z : Zs) : Addr → List (Str × D) → List D → MR := runM (b_Going_go Z) 7 2 Z.Going
theorem Fm_Going_go_eq {Z : Zs} {a : Addr} {fs : List (Str × D)} {x0 : D} : Fm_Going_go Z a fs [x0] = finM a Z.Going ((b_Going_go Z).f [.ob (some a) Z.Going fs, .d x0, .un, .un, .un, .un, .un]) := by kernel_rfl
noncomputable def F_Going_go (Z : Zs) : List (Str × D) → List D → MR := mR (Fm_Going_go Z)
def N_comes_to : List Str := ["walker", "row", "place", "state", "goal", "going", "stretch"]
noncomputable def b_comes_to_l1 (Z : Zs) : SS (HY Z) :=
  (.seq (.dropX (.meth 5 Z.Going "go" (F_Going_go Z) (.cons (.var 6) .nil)))
  (.seq (.ite (.lendO [Z.Going] true (.tru (.meth Z.Going "is_there" (F_Going_is_there Z) (.var 5) .nil)))
  (.ret (.lendO [Z.Going] true (.op oAdd (.var 2) (.fld "done" (fc_done Z) (fo_done Z) (.var 5)))))
  .skip)
  (.aug 2 aAdd (.lendO [Z.Going] true (.fld "done" (fc_done Z) (fo_done Z) (.var 5))))))
noncomputable def b_comes_to (Z : Zs) : SS (HY Z) :=
  (.seq (.drop (.callX (F_need_place Z) (.cons (.var 2) .nil)))
  (.seq (.drop (.callX (F_need_state Z) (.cons (.var 0) (.cons (.var 3) .nil))))
  (.seq (.drop (.callX (F_need_state Z) (.cons (.var 0) (.cons (.var 4) .nil))))
  (.seq (.set 5 (.makeO Z.Going (F_Going_init Z) (.cons (.var 0) (.cons (.var 3) (.cons (.var 4) .nil)))))
  (.seq (.forS (.seq (.call (F_stretches Z) (.cons (.var 1) (.cons (.var 2) (.cons .non .nil))))) (.name 6) [6] (b_comes_to_l1 Z))
  (.ret .non))))))
noncomputable def F_comes_to (Z : Zs) : List D → M S := runF (b_comes_to Z) 7 5
theorem F_comes_to_eq {Z : Zs} {x0 x1 x2 x3 x4 : D} : F_comes_to Z [x0, x1, x2, x3, x4] = fin ((b_comes_to Z).f [.d x0, .d x1, .d x2, .d x3, .d x4, .un, .un]) := by kernel_rfl
def N_l_cell : List Str := ["_law_script", "_law_k", "_law_cell_here", "_law_more"]
noncomputable def b_l_cell (Z : Zs) : SS (HY Z) :=
  (.seq (.setD 2 (.op oAdd (.op oMul (.int 7919) (.var 1)) (.int 11)))
  (.seq (.ite (.of (.op oNe (.var 0) (.lst .nil)))
  (.seq (.setD 2 (.op oMul (.op oIx (.var 0) (.op oMod (.var 1) (.cb bLen (.cons (.var 0) .nil)))) (.int 48271)))
  (.setD 2 (.op oAdd (.op oAdd (.var 2) (.op oMul (.int 104729) (.var 1))) (.op oMul (.op oDiv (.var 1) (.cb bLen (.cons (.var 0) .nil))) (.int 7919)))))
  .skip)
  (.seq (.setD 3 (.op oMod (.var 2) (.int 2147483647)))
  (.seq (.setD 3 (.op oMod (.op oMul (.var 3) (.var 3)) (.int 2147483629)))
  (.ret (.op oMod (.op oAdd (.op oAdd (.op oMul (.var 3) (.var 3)) (.op oMul (.int 69621) (.var 3))) (.var 1)) (.int 2147483587)))))))
noncomputable def F_l_cell (Z : Zs) : List D → M S := runF (b_l_cell Z) 4 2
theorem F_l_cell_eq {Z : Zs} {x0 x1 : D} : F_l_cell Z [x0, x1] = fin ((b_l_cell Z).f [.d x0, .d x1, .un, .un]) := by kernel_rfl
def N_l_value : List Str := ["_law_cell_here"]
noncomputable def b_l_value (Z : Zs) : SS (HY Z) :=
  (.ret (.op oIx (.lst (.cons .non (.cons (.int 0) (.cons (.int 1) (.cons (.un oNeg (.int 1)) (.cons (.int 5) (.cons (.op oSub (.op oPow (.int 10) (.int 60)) (.op oMod (.op oDiv (.var 0) (.int 8)) (.int 3))) (.cons .non (.cons (.int 1) .nil))))))))) (.op oMod (.var 0) (.int 8))))
noncomputable def F_l_value (Z : Zs) : List D → M S := runF (b_l_value Z) 1 1
theorem F_l_value_eq {Z : Zs} {x0 : D} : F_l_value Z [x0] = fin ((b_l_value Z).f [.d x0]) := by kernel_rfl
def N_l_values : List Str := ["_law_script", "_law_k", "_law_many", "_law_j"]
noncomputable def b_l_values (Z : Zs) : SS (HY Z) :=
  (.ret (.lc (.rng1 (.cons (.var 2) .nil)) (.name 3) .yes (.call (F_l_value Z) (.cons (.call (F_l_cell Z) (.cons (.var 0) (.cons (.op oAdd (.var 1) (.var 3)) .nil))) .nil)) [3]))
noncomputable def F_l_values (Z : Zs) : List D → M S := runF (b_l_values Z) 4 3
theorem F_l_values_eq {Z : Zs} {x0 x1 x2 : D} : F_l_values Z [x0, x1, x2] = fin ((b_l_values Z).f [.d x0, .d x1, .d x2, .un]) := by kernel_rfl
def N_l_row : List Str := ["_law_script", "_law_k", "_law_cell_here", "_law_left", "_law_middle", "_law_right", "_law_first"]
noncomputable def b_l_row (Z : Zs) : SS (HY Z) :=
  (.seq (.setD 2 (.call (F_l_cell Z) (.cons (.var 0) (.cons (.var 1) .nil))))
  (.seq (.setD 3 (.call (F_l_values Z) (.cons (.var 0) (.cons (.op oAdd (.var 1) (.int 10)) (.cons (.op oAdd (.int 1) (.op oMod (.var 2) (.int 6))) .nil)))))
  (.seq (.setD 4 (.call (F_l_values Z) (.cons (.var 0) (.cons (.op oAdd (.var 1) (.int 20)) (.cons (.op oMod (.op oDiv (.var 2) (.int 6)) (.int 9)) .nil)))))
  (.seq (.setD 5 (.call (F_l_values Z) (.cons (.var 0) (.cons (.op oAdd (.var 1) (.int 30)) (.cons (.op oAdd (.int 1) (.op oMod (.op oDiv (.var 2) (.int 54)) (.int 6))) .nil)))))
  (.seq (.setD 6 (.op oAdd (.op oIx (.lst (.cons (.int 0) (.cons (.int 3) (.cons (.un oNeg (.int 7)) (.cons (.op oPow (.int 10) (.int 30)) (.cons (.op oSub (.int 0) (.op oPow (.int 10) (.int 30))) .nil)))))) (.op oMod (.op oDiv (.var 2) (.int 324)) (.int 5))) (.op oMod (.op oDiv (.var 2) (.int 1620)) (.int 5))))
  (.ret (.tup (.cons (.cb bTuple (.cons (.var 3) .nil)) (.cons (.cb bTuple (.cons (.var 4) .nil)) (.cons (.var 6) (.cons (.cb bTuple (.cons (.var 5) .nil)) .nil)))))))))))
noncomputable def F_l_row (Z : Zs) : List D → M S := runF (b_l_row Z) 7 2
theorem F_l_row_eq {Z : Zs} {x0 x1 : D} : F_l_row Z [x0, x1] = fin ((b_l_row Z).f [.d x0, .d x1, .un, .un, .un, .un, .un]) := by kernel_rfl
def N_l_value_at : List Str := ["_law_drawn", "_law_place", "_law_left", "_law_middle", "_law_first", "_law_right"]
noncomputable def b_l_value_at (Z : Zs) : SS (HY Z) :=
  (.seq (.asg (.var 0) (.seq 4 (.cons 2 (.cons 3 (.cons 4 (.cons 5 .nil))))))
  (.seq (.ite (.of (.op oLt (.var 1) (.var 4)))
  (.ret (.op oIx (.var 2) (.op oMod (.op oSub (.var 1) (.var 4)) (.cb bLen (.cons (.var 2) .nil)))))
  .skip)
  (.seq (.ite (.of (.op oLt (.op oSub (.var 1) (.var 4)) (.cb bLen (.cons (.var 3) .nil))))
  (.ret (.op oIx (.var 3) (.op oSub (.var 1) (.var 4))))
  .skip)
  (.ret (.op oIx (.var 5) (.op oMod (.op oSub (.op oSub (.var 1) (.var 4)) (.cb bLen (.cons (.var 3) .nil))) (.cb bLen (.cons (.var 5) .nil))))))))
noncomputable def F_l_value_at (Z : Zs) : List D → M S := runF (b_l_value_at Z) 6 2
theorem F_l_value_at_eq {Z : Zs} {x0 x1 : D} : F_l_value_at Z [x0, x1] = fin ((b_l_value_at Z).f [.d x0, .d x1, .un, .un, .un, .un]) := by kernel_rfl
def N_l_walker : List Str := ["_law_script", "_law_k", "_law_cell_here", "_law_states", "_law_found", "_law_state", "_law_j", "_law_more", "_law_goal"]
noncomputable def b_l_walker_l1 (Z : Zs) : SS (HY Z) :=
  (.seq (.setD 7 (.call (F_l_cell Z) (.cons (.var 0) (.cons (.op oAdd (.op oAdd (.op oAdd (.var 1) (.int 1)) (.op oMul (.int 7) (.var 5))) (.var 6)) .nil))))
  (.ite (.of (.op oGt (.op oMod (.var 7) (.int 5)) (.int 0)))
  (.seq (.setD 8 (.op oIx (.lst (.cons (.op oMod (.op oDiv (.var 7) (.int 5)) (.var 3)) (.cons (.op oMod (.op oAdd (.var 5) (.int 1)) (.var 3)) .nil))) (.op oMod (.op oDiv (.var 7) (.int 200)) (.int 2))))
  (.tput 4 (.tup (.cons (.var 5) (.cons (.op oIx (.lst (.cons .non (.cons (.int 0) (.cons (.int 1) (.cons (.un oNeg (.int 1)) (.cons (.int 5) (.cons (.op oPow (.int 10) (.int 60)) (.cons (.op oSub (.op oPow (.int 10) (.int 60)) (.int 1)) .nil)))))))) (.var 6)) .nil))) (.tup (.cons (.var 8) (.cons (.call (F_l_value Z) (.cons (.op oDiv (.var 7) (.int 400)) .nil)) .nil)))))
  .skip))
noncomputable def b_l_walker_l2 (Z : Zs) : SS (HY Z) :=
  (.forS (.rng1 (.cons (.int 7) .nil)) (.name 6) [6, 7, 8] (b_l_walker_l1 Z))
noncomputable def b_l_walker (Z : Zs) : SS (HY Z) :=
  (.seq (.setD 2 (.call (F_l_cell Z) (.cons (.var 0) (.cons (.var 1) .nil))))
  (.seq (.setD 3 (.op oIx (.lst (.cons (.op oAdd (.int 1) (.op oMod (.var 2) (.int 6))) (.cons (.int 30) (.cons (.int 2) (.cons (.int 3) (.cons (.int 5) (.cons (.int 8) .nil))))))) (.op oMod (.op oDiv (.var 2) (.int 6)) (.int 6))))
  (.seq (.set 4 .tnew)
  (.seq (.forS (.rng1 (.cons (.var 3) .nil)) (.name 5) [5, 6, 7, 8] (b_l_walker_l2 Z))
  (.frzT 4 (.ret (.tup (.cons (.var 3) (.cons (.var 4) .nil)))))))))
noncomputable def F_l_walker (Z : Zs) : List D → M S := runF (b_l_walker Z) 9 2
theorem F_l_walker_eq {Z : Zs} {x0 x1 : D} : F_l_walker Z [x0, x1] = fin ((b_l_walker Z).f [.d x0, .d x1, .un, .un, .un, .un, .un, .un, .un]) := by kernel_rfl
def N_l_steps : List Str := ["_law_walker_here", "_law_state", "_law_values_here", "_law_value_here"]
noncomputable def b_l_steps_l1 (Z : Zs) : SS (HY Z) :=
  (.setD 1 (.op oIx (.tget2 (.op oIx (.var 0) (.int 1)) (.tup (.cons (.var 1) (.cons (.var 3) .nil))) (.tup (.cons (.var 1) (.cons .non .nil)))) (.int 0)))
noncomputable def b_l_steps (Z : Zs) : SS (HY Z) :=
  (.seq (.forS (.seq (.var 2)) (.name 3) [3] (b_l_steps_l1 Z))
  (.ret (.var 1)))
noncomputable def F_l_steps (Z : Zs) : List D → M S := runF (b_l_steps Z) 4 3
theorem F_l_steps_eq {Z : Zs} {x0 x1 x2 : D} : F_l_steps Z [x0, x1, x2] = fin ((b_l_steps Z).f [.d x0, .d x1, .d x2, .un]) := by kernel_rfl
def N_l_round : List Str := ["_law_walker_here", "_law_ring", "_law_many", "_law_state", "_law_turn", "_law_one"]
noncomputable def b_l_round_l1 (Z : Zs) : SS (HY Z) :=
  (.seq (.ite (.of (.op oEq (.op oMod (.var 2) (.int 2)) (.int 1)))
  (.setD 3 (.op oIx (.var 4) (.var 3)))
  .skip)
  (.seq (.setD 4 (.lc (.seq (.var 4)) (.name 5) .yes (.op oIx (.var 4) (.var 5)) [5]))
  (.setD 2 (.op oDiv (.var 2) (.int 2)))))
noncomputable def b_l_round (Z : Zs) : SS (HY Z) :=
  (.seq (.setD 4 (.lc (.rng1 (.cons (.op oIx (.var 0) (.int 0)) .nil)) (.name 5) .yes (.call (F_l_steps Z) (.cons (.var 0) (.cons (.var 5) (.cons (.var 1) .nil)))) [5]))
  (.seq (.whileS (.of (.op oGt (.var 2) (.int 0))) [] (b_l_round_l1 Z))
  (.ret (.var 3))))
noncomputable def F_l_round (Z : Zs) : List D → M S := runF (b_l_round Z) 6 4
theorem F_l_round_eq {Z : Zs} {x0 x1 x2 x3 : D} : F_l_round Z [x0, x1, x2, x3] = fin ((b_l_round Z).f [.d x0, .d x1, .d x2, .d x3, .un, .un]) := by kernel_rfl
def N_l_along : List Str := ["_law_walker_here", "_law_ring", "_law_begin", "_law_many", "_law_state"]
noncomputable def b_l_along (Z : Zs) : SS (HY Z) :=
  (.seq (.setD 1 (.op oAdd (.sl (.var 1) (.some (.var 2)) .none) (.sl (.var 1) .none (.some (.var 2)))))
  (.seq (.setD 4 (.call (F_l_round Z) (.cons (.var 0) (.cons (.var 1) (.cons (.op oDiv (.var 3) (.cb bLen (.cons (.var 1) .nil))) (.cons (.var 4) .nil))))))
  (.ret (.call (F_l_steps Z) (.cons (.var 0) (.cons (.var 4) (.cons (.sl (.var 1) .none (.some (.op oMod (.var 3) (.cb bLen (.cons (.var 1) .nil))))) .nil)))))))
noncomputable def F_l_along (Z : Zs) : List D → M S := runF (b_l_along Z) 5 5
theorem F_l_along_eq {Z : Zs} {x0 x1 x2 x3 x4 : D} : F_l_along Z [x0, x1, x2, x3, x4] = fin ((b_l_along Z).f [.d x0, .d x1, .d x2, .d x3, .d x4]) := by kernel_rfl
def N_l_state_at : List Str := ["_law_walker_here", "_law_drawn", "_law_place", "_law_state", "_law_behind", "_law_left", "_law_middle", "_law_first", "_law_right", "_law_turn", "_law_last"]
noncomputable def b_l_state_at (Z : Zs) : SS (HY Z) :=
  (.seq (.asg (.var 1) (.seq 4 (.cons 5 (.cons 6 (.cons 7 (.cons 8 .nil))))))
  (.seq (.setD 9 (.op oAdd (.var 7) (.cb bLen (.cons (.var 6) .nil))))
  (.seq (.ite (.of (.op oLt (.var 2) (.var 7)))
  (.seq (.setD 10 (.cb bMin2 (.cons (.var 7) (.cons (.var 4) .nil))))
  (.seq (.setD 3 (.call (F_l_along Z) (.cons (.var 0) (.cons (.var 5) (.cons (.op oMod (.op oSub (.var 2) (.var 7)) (.cb bLen (.cons (.var 5) .nil))) (.cons (.op oSub (.var 10) (.var 2)) (.cons (.var 3) .nil)))))))
  (.setD 2 (.var 10))))
  .skip)
  (.seq (.ite (.of (.op oLt (.var 2) (.cb bMin2 (.cons (.var 9) (.cons (.var 4) .nil)))))
  (.seq (.setD 3 (.call (F_l_steps Z) (.cons (.var 0) (.cons (.var 3) (.cons (.sl (.var 6) (.some (.op oSub (.var 2) (.var 7))) (.some (.op oSub (.cb bMin2 (.cons (.var 9) (.cons (.var 4) .nil))) (.var 7)))) .nil)))))
  (.setD 2 (.cb bMin2 (.cons (.var 9) (.cons (.var 4) .nil)))))
  .skip)
  (.seq (.ite (.of (.op oLt (.var 2) (.var 4)))
  (.setD 3 (.call (F_l_along Z) (.cons (.var 0) (.cons (.var 8) (.cons (.op oMod (.op oSub (.var 2) (.var 9)) (.cb bLen (.cons (.var 8) .nil))) (.cons (.op oSub (.var 4) (.var 2)) (.cons (.var 3) .nil)))))))
  .skip)
  (.ret (.var 3)))))))
noncomputable def F_l_state_at (Z : Zs) : List D → M S := runF (b_l_state_at Z) 11 5
theorem F_l_state_at_eq {Z : Zs} {x0 x1 x2 x3 x4 : D} : F_l_state_at Z [x0, x1, x2, x3, x4] = fin ((b_l_state_at Z).f [.d x0, .d x1, .d x2, .d x3, .d x4, .un, .un, .un, .un, .un, .un]) := by kernel_rfl
def N_l_met : List Str := ["_law_walker_here", "_law_drawn", "_law_place", "_law_state", "_law_goal", "_law_many", "_law_k"]
noncomputable def b_l_met_l1 (Z : Zs) : SS (HY Z) :=
  (.seq (.ite (.of (.op oEq (.var 3) (.var 4)))
  (.ret (.tup (.cons (.var 6) (.cons (.var 3) .nil))))
  .skip)
  (.ite (.of (.op oLt (.var 6) (.var 5)))
  (.setD 3 (.call (F_l_steps Z) (.cons (.var 0) (.cons (.var 3) (.cons (.lst (.cons (.call (F_l_value_at Z) (.cons (.var 1) (.cons (.op oAdd (.var 2) (.var 6)) .nil))) .nil)) .nil)))))
  .skip))
noncomputable def b_l_met (Z : Zs) : SS (HY Z) :=
  (.seq (.forS (.rng1 (.cons (.op oAdd (.var 5) (.int 1)) .nil)) (.name 6) [6] (b_l_met_l1 Z))
  (.ret (.tup (.cons .non (.cons (.var 3) .nil)))))
noncomputable def F_l_met (Z : Zs) : List D → M S := runF (b_l_met Z) 7 6
theorem F_l_met_eq {Z : Zs} {x0 x1 x2 x3 x4 x5 : D} : F_l_met Z [x0, x1, x2, x3, x4, x5] = fin ((b_l_met Z).f [.d x0, .d x1, .d x2, .d x3, .d x4, .d x5, .un]) := by kernel_rfl
def N_l_due : List Str := ["_law_walker_here", "_law_drawn", "_law_place", "_law_state", "_law_goal", "_law_left", "_law_middle", "_law_first", "_law_right", "_law_many", "_law_found", "_law_later"]
noncomputable def b_l_due (Z : Zs) : SS (HY Z) :=
  (.seq (.asg (.var 1) (.seq 4 (.cons 5 (.cons 6 (.cons 7 (.cons 8 .nil))))))
  (.seq (.ite (.of (.op oLt (.var 2) (.var 7)))
  (.seq (.setD 9 (.cb bMin2 (.cons (.op oSub (.var 7) (.var 2)) (.cons (.op oMul (.op oAdd (.op oIx (.var 0) (.int 0)) (.int 1)) (.cb bLen (.cons (.var 5) .nil))) .nil))))
  (.seq (.asg (.call (F_l_met Z) (.cons (.var 0) (.cons (.var 1) (.cons (.var 2) (.cons (.var 3) (.cons (.var 4) (.cons (.var 9) .nil))))))) (.seq 2 (.cons 10 (.cons 11 .nil))))
  (.seq (.ite (.of (.op oNotN (.var 10) .non))
  (.ret (.op oAdd (.var 2) (.var 10)))
  .skip)
  (.seq (.setD 3 (.call (F_l_state_at Z) (.cons (.var 0) (.cons (.var 1) (.cons (.var 2) (.cons (.var 3) (.cons (.var 7) .nil)))))))
  (.setD 2 (.var 7))))))
  .skip)
  (.seq (.setD 9 (.op oAdd (.cb bMax2 (.cons (.int 0) (.cons (.op oSub (.op oAdd (.var 7) (.cb bLen (.cons (.var 6) .nil))) (.var 2)) .nil))) (.op oMul (.op oAdd (.op oIx (.var 0) (.int 0)) (.int 1)) (.cb bLen (.cons (.var 8) .nil)))))
  (.seq (.asg (.call (F_l_met Z) (.cons (.var 0) (.cons (.var 1) (.cons (.var 2) (.cons (.var 3) (.cons (.var 4) (.cons (.var 9) .nil))))))) (.seq 2 (.cons 10 (.cons 11 .nil))))
  (.seq (.ite (.of (.op oIsN (.var 10) .non))
  (.ret .non)
  .skip)
  (.ret (.op oAdd (.var 2) (.var 10))))))))
noncomputable def F_l_due (Z : Zs) : List D → M S := runF (b_l_due Z) 12 5
theorem F_l_due_eq {Z : Zs} {x0 x1 x2 x3 x4 : D} : F_l_due Z [x0, x1, x2, x3, x4] = fin ((b_l_due Z).f [.d x0, .d x1, .d x2, .d x3, .d x4, .un, .un, .un, .un, .un, .un, .un]) := by kernel_rfl
def N_law : List Str := ["_law_script", "_law_rows", "_law_made", "_law_one", "_law_walkers", "_law_goers", "_law_legs", "_law_k", "_law_cell_here", "_law_far", "_law_place", "_law_state", "_law_goal", "_law_due_here", "_law_found"]
noncomputable def b_law_l1 (Z : Zs) : SS (HY Z) :=
  (.seq (.setD 8 (.call (F_l_cell Z) (.cons (.var 0) (.cons (.op oAdd (.int 1000) (.op oMul (.int 4) (.var 7))) .nil))))
  (.seq (.setD 6 (.op oIx (.var 4) (.op oMod (.op oDiv (.var 7) (.int 2)) (.int 2))))
  (.seq (.setD 9 (.op oMul (.call (F_l_cell Z) (.cons (.var 0) (.cons (.op oAdd (.int 1001) (.op oMul (.int 4) (.var 7))) .nil))) (.op oIx (.lst (.cons (.op oPow (.int 10) (.int 21)) (.cons (.op oPow (.int 10) (.int 51)) .nil))) (.op oMod (.op oDiv (.var 8) (.int 7)) (.int 2)))))
  (.seq (.setD 10 (.op oAdd (.op oIx (.op oIx (.var 1) (.op oMod (.var 7) (.int 2))) (.int 2)) (.op oIx (.lst (.cons (.op oSub (.op oMod (.var 8) (.int 60)) (.int 30)) (.cons (.op oSub (.int 0) (.var 9)) (.cons (.var 9) (.cons (.op oSub (.int 0) (.op oMod (.var 8) (.op oPow (.int 10) (.int 5)))) .nil))))) (.op oMod (.op oDiv (.var 8) (.int 60)) (.int 4)))))
  (.seq (.setD 11 (.op oMod (.call (F_l_cell Z) (.cons (.var 0) (.cons (.op oAdd (.int 1002) (.op oMul (.int 4) (.var 7))) .nil))) (.op oIx (.var 6) (.int 0))))
  (.seq (.setD 12 (.op oIx (.lst (.cons (.op oMod (.call (F_l_cell Z) (.cons (.var 0) (.cons (.op oAdd (.int 1003) (.op oMul (.int 4) (.var 7))) .nil))) (.op oIx (.var 6) (.int 0))) (.cons (.var 11) .nil))) (.op oDiv (.op oMod (.op oDiv (.var 8) (.int 240)) (.int 8)) (.int 7))))
  (.seq (.setD 13 (.call (F_l_due Z) (.cons (.var 6) (.cons (.op oIx (.var 1) (.op oMod (.var 7) (.int 2))) (.cons (.var 10) (.cons (.var 11) (.cons (.var 12) .nil)))))))
  (.seq (.setD 14 (.call (F_comes_to Z) (.cons (.op oIx (.var 5) (.op oMod (.op oDiv (.var 7) (.int 2)) (.int 2))) (.cons (.op oIx (.var 2) (.op oMod (.var 7) (.int 2))) (.cons (.var 10) (.cons (.var 11) (.cons (.var 12) .nil)))))))
  (.ite (.or (.of (.op oNe (.op oIsN (.var 14) .non) (.op oIsN (.var 13) .non))) (.or (.of (.op oNe (.var 14) (.var 13))) (.tru (.cb (bIsi (TB Z) (TB_ok Z)) (.cons (.var 14) (.cons (.ty "bool") .nil))))))
  (.ret (.bl false))
  .skip)))))))))
noncomputable def b_law (Z : Zs) : SS (HY Z) :=
  (.seq (.setD 1 (.lst (.cons (.call (F_l_row Z) (.cons (.var 0) (.cons (.int 0) .nil))) (.cons (.call (F_l_row Z) (.cons (.var 0) (.cons (.int 50) .nil))) .nil))))
  (.seq (.setD 2 (.lc (.seq (.var 1)) (.name 3) .yes (.make Z.Row (F_Row_init Z) (.cons (.op oIx (.var 3) (.int 0)) (.cons (.op oIx (.var 3) (.int 1)) (.cons (.op oIx (.var 3) (.int 2)) (.cons (.op oIx (.var 3) (.int 3)) .nil))))) [3]))
  (.seq (.setD 4 (.lst (.cons (.call (F_l_walker Z) (.cons (.var 0) (.cons (.int 100) .nil))) (.cons (.call (F_l_walker Z) (.cons (.var 0) (.cons (.int 400) .nil))) .nil))))
  (.seq (.setD 5 (.lc (.seq (.var 4)) (.name 6) .yes (.make Z.Walker (F_Walker_init Z) (.cons (.op oIx (.var 6) (.int 0)) (.cons (.op oIx (.var 6) (.int 1)) .nil))) [6]))
  (.seq (.forS (.rng1 (.cons (.op oAdd (.cb bMin2 (.cons (.int 63) (.cons (.cb bLen (.cons (.var 0) .nil)) .nil))) (.int 4)) .nil)) (.name 7) [6, 7, 8, 9, 10, 11, 12, 13, 14] (b_law_l1 Z))
  (.ret (.op oEq (.lc (.seq (.var 2)) (.name 3) .yes (.meth Z.Row "told" (F_Row_told Z) (.var 3) .nil) [3]) (.var 1))))))))
noncomputable def F_law (Z : Zs) : List D → M S := runF (b_law Z) 15 1
theorem F_law_eq {Z : Zs} {x0 : D} : F_law Z [x0] = fin ((b_law Z).f [.d x0, .un, .un, .un, .un, .un, .un, .un, .un, .un, .un, .un, .un, .un, .un]) := by kernel_rfl
end Far
namespace Far
open PySem L2
noncomputable def t_is_place (K : PySem.W.Frag) (Z : Zs) : TS :=
  (tRet (tAndT K (tCB (rIsU K) (tCons (tVar 0) (tCons (tC (.ty "int")) tNil))) (tNotT K (tCB (rIsU K) (tCons (tVar 0) (tCons (tC (.ty "bool")) tNil))))))
theorem rd_is_place (K : PySem.W.Frag) (Z : Zs) (W : WX) : (b_is_place Z).t K W = t_is_place K Z := by kernel_rfl
noncomputable def t_is_value (K : PySem.W.Frag) (Z : Zs) : TS :=
  (tRet (tOrT K (tOp (rIsN) (tVar 0) (tC .non)) (tCall (spD K (RF (F_is_place Z))) [] E0 (tCons (tVar 0) tNil))))
theorem rd_is_value (K : PySem.W.Frag) (Z : Zs) (W : WX) : (b_is_value Z).t K W = t_is_value K Z := by kernel_rfl
noncomputable def t_are_values (K : PySem.W.Frag) (Z : Zs) : TS :=
  (tSeq (tIfS (tOr (tNot (tTru K (tCB (rIsU K) (tCons (tVar 0) (tCons (tTupP (tCons (tC (.ty "tuple")) (tCons (tC (.ty "list")) tNil))) tNil))))) (tNot (tTest (tChain (rI0 fun i j => .bl (decide (i ≤ j))) (rI0 fun i j => .bl (decide (i ≤ j))) (tVar 1) (tCB (rLenU K) (tCons (tVar 0) tNil)) (tC (.int 4000))))))
  (tRet (tC (.bl false)))
  tNext)
  (tRet (tCB (rAll K) (tCons (tLc (iSeq K (tVar 0)) (gName 2) tYes (tCall (spD K (RF (F_is_value Z))) [] E0 (tCons (tVar 2) tNil)) [2]) tNil))))
theorem rd_are_values (K : PySem.W.Frag) (Z : Zs) (W : WX) : (b_are_values Z).t K W = t_are_values K Z := by kernel_rfl
noncomputable def t_need_place (K : PySem.W.Frag) (Z : Zs) (W : WX) : TS :=
  (tIfS (tNot (tTru K (tCall (spD K (RF (F_is_place Z))) [] E0 (tCons (tVar 0) tNil))))
  (tRaise Z.NoPlace W)
  tNext)
theorem rd_need_place (K : PySem.W.Frag) (Z : Zs) (W : WX) : (b_need_place Z).t K W = t_need_place K Z W := by kernel_rfl
noncomputable def t_Row_init (K : PySem.W.Frag) (Z : Zs) (W : WX) : TS :=
  (tSeq (tIfS (tOr (tNot (tTru K (tCall (spD K (RF (F_are_values Z))) [] E0 (tCons (tVar 1) (tCons (tC (.int 1)) tNil))))) (tOr (tNot (tTru K (tCall (spD K (RF (F_are_values Z))) [] E0 (tCons (tVar 2) (tCons (tC (.int 0)) tNil))))) (tOr (tNot (tTru K (tCall (spD K (RF (F_is_place Z))) [] E0 (tCons (tVar 3) tNil)))) (tNot (tTru K (tCall (spD K (RF (F_are_values Z))) [] E0 (tCons (tVar 4) (tCons (tC (.int 1)) tNil))))))))
  (tRaise Z.NoRow W)
  tNext)
  (tSeq (sFld K (tVar 0) (tCB (rTupU K) (tCons (tVar 1) tNil)) "left")
  (tSeq (sFld K (tVar 0) (tCB (rTupU K) (tCons (tVar 2) tNil)) "middle")
  (tSeq (sFld K (tVar 0) (tVar 3) "first")
  (sFld K (tVar 0) (tCB (rTupU K) (tCons (tVar 4) tNil)) "right")))))
theorem rd_Row_init (K : PySem.W.Frag) (Z : Zs) (W : WX) : (b_Row_init Z).t K W = t_Row_init K Z W := by kernel_rfl
noncomputable def t_Row_told (K : PySem.W.Frag) (Z : Zs) : TS :=
  (tRet (tTupP (tCons (tFld K (tVar 0) "left") (tCons (tFld K (tVar 0) "middle") (tCons (tFld K (tVar 0) "first") (tCons (tFld K (tVar 0) "right") tNil))))))
theorem rd_Row_told (K : PySem.W.Frag) (Z : Zs) (W : WX) : (b_Row_told Z).t K W = t_Row_told K Z := by kernel_rfl
noncomputable def t_is_between (K : PySem.W.Frag) (Z : Zs) : TS :=
  (tRet (tAndT K (tCall (spD K (RF (F_is_place Z))) [] E0 (tCons (tVar 0) tNil)) (tChain (rI0 fun i j => .bl (decide (i ≤ j))) (rI0 fun i j => .bl (decide (i ≤ j))) (tVar 1) (tVar 0) (tVar 2))))
theorem rd_is_between (K : PySem.W.Frag) (Z : Zs) (W : WX) : (b_is_between Z).t K W = t_is_between K Z := by kernel_rfl
noncomputable def t_is_pair (K : PySem.W.Frag) (Z : Zs) : TS :=
  (tSeq (tIfS (tOr (tNot (tTru K (tCB (rIsU K) (tCons (tVar 0) (tCons (tC (.ty "tuple")) tNil))))) (tTest (tOp (rNeU K) (tCB (rLenU K) (tCons (tVar 0) tNil)) (tC (.int 2)))))
  (tRet (tC (.bl false)))
  tNext)
  (tRet (tAndT K (tCall (spD K (RF (F_is_between Z))) [] E0 (tCons (tOp (rIx K) (tVar 0) (tC (.int 0))) (tCons (tC (.int 0)) (tCons (tOp (rI0 fun i j => .int (i - j)) (tVar 1) (tC (.int 1))) tNil)))) (tCall (spD K (RF (F_is_value Z))) [] E0 (tCons (tOp (rIx K) (tVar 0) (tC (.int 1))) tNil)))))
theorem rd_is_pair (K : PySem.W.Frag) (Z : Zs) (W : WX) : (b_is_pair Z).t K W = t_is_pair K Z := by kernel_rfl
noncomputable def t_is_table (K : PySem.W.Frag) (Z : Zs) : TS :=
  (tSeq (tIfS (tNot (tTru K (tCB (rIsU K) (tCons (tVar 0) (tCons (tC (.ty "dict")) tNil)))))
  (tRet (tC (.bl false)))
  tNext)
  (tRet (tCB (rAll K) (tCons (tLc (iTKeys K (tVar 0)) (gName 2) tYes (tAndT K (tCall (spD K (RF (F_is_pair Z))) [] E0 (tCons (tVar 2) (tCons (tVar 1) tNil))) (tCall (spD K (RF (F_is_pair Z))) [] E0 (tCons (tOp (rIxT2 K) (tVar 0) (tVar 2)) (tCons (tVar 1) tNil)))) [2]) tNil))))
theorem rd_is_table (K : PySem.W.Frag) (Z : Zs) (W : WX) : (b_is_table Z).t K W = t_is_table K Z := by kernel_rfl
noncomputable def t_Walker_init (K : PySem.W.Frag) (Z : Zs) (W : WX) : TS :=
  (tSeq (tIfS (tOr (tNot (tTru K (tCall (spD K (RF (F_is_between Z))) [] E0 (tCons (tVar 1) (tCons (tC (.int 1)) (tCons (tC (.int 30)) tNil)))))) (tNot (tTru K (tCall (spD K (RF (F_is_table Z))) [] E0 (tCons (tVar 2) (tCons (tVar 1) tNil))))))
  (tRaise Z.NoWalker W)
  tNext)
  (tSeq (sFld K (tVar 0) (tVar 1) "states")
  (sFld K (tVar 0) (tTCopyF K (tVar 2)) "table")))
theorem rd_Walker_init (K : PySem.W.Frag) (Z : Zs) (W : WX) : (b_Walker_init Z).t K W = t_Walker_init K Z W := by kernel_rfl
noncomputable def t_Walker_step (K : PySem.W.Frag) (Z : Zs) : TS :=
  (tRet (tTGet2 K (tFld K (tVar 0) "table") (tTupP (tCons (tVar 1) (tCons (tVar 2) tNil))) (tTupP (tCons (tVar 1) (tCons (tVar 2) tNil)))))
theorem rd_Walker_step (K : PySem.W.Frag) (Z : Zs) (W : WX) : (b_Walker_step Z).t K W = t_Walker_step K Z := by kernel_rfl
noncomputable def t_need_state (K : PySem.W.Frag) (Z : Zs) (W : WX) : TS :=
  (tIfS (tNot (tTru K (tCall (spD K (RF (F_is_between Z))) [] E0 (tCons (tVar 1) (tCons (tC (.int 0)) (tCons (tOp (rI0 fun i j => .int (i - j)) (tFld K (tVar 0) "states") (tC (.int 1))) tNil))))))
  (tRaise Z.NoState W)
  tNext)
theorem rd_need_state (K : PySem.W.Frag) (Z : Zs) (W : WX) : (b_need_state Z).t K W = t_need_state K Z W := by kernel_rfl
noncomputable def t_stretches (K : PySem.W.Frag) (Z : Zs) : TS :=
  (tSeq (tAsg (tLst tNil) (gName 3))
  (tSeq (tAsg (tOp (rAddU K) (tFld K (tVar 0) "first") (tCB (rLenU K) (tCons (tFld K (tVar 0) "middle") tNil))) (gName 4))
  (tSeq (tAsg (tLst (tCons (tTupP (tCons (tFld K (tVar 0) "left") (tCons (tFld K (tVar 0) "first") (tCons (tFld K (tVar 0) "first") tNil)))) (tCons (tTupP (tCons (tFld K (tVar 0) "middle") (tCons (tFld K (tVar 0) "first") (tCons (tVar 4) tNil)))) tNil))) (gName 5))
  (tSeq (tFor (iSeq K (tVar 5)) (gSeq K 3 (gCons (gName 6) (gCons (gName 7) (gCons (gName 8) gNil))))
  (tSeq (tAsg (tIf (tTest (tOp (rIsN) (tVar 2) (tC .non))) (tVar 8) (tCB (rMn2) (tCons (tVar 8) (tCons (tVar 2) tNil)))) (gName 9))
  (tIfS (tTest (tOp (rI0 fun i j => .bl (decide (i < j))) (tVar 1) (tVar 9)))
  (tSeq (tDrop (tBM K "list" rAppend (tVar 3) (tCons (tTupP (tCons (tVar 6) (tCons (tOp (rI (fun _ j => 0 < j) fun i j => .int (i % j)) (tOp (rI0 fun i j => .int (i - j)) (tVar 1) (tVar 7)) (tCB (rLenU K) (tCons (tVar 6) tNil))) (tCons (tOp (rI0 fun i j => .int (i - j)) (tVar 9) (tVar 1)) tNil)))) tNil)))
  (tAsg (tVar 9) (gName 1)))
  tNext)))
  (tSeq (tIfS (tTest (tOp (rIsN) (tVar 2) (tC .non)))
  (tDrop (tBM K "list" rAppend (tVar 3) (tCons (tTupP (tCons (tFld K (tVar 0) "right") (tCons (tOp (rI (fun _ j => 0 < j) fun i j => .int (i % j)) (tOp (rI0 fun i j => .int (i - j)) (tVar 1) (tVar 4)) (tCB (rLenU K) (tCons (tFld K (tVar 0) "right") tNil))) (tCons (tC .non) tNil)))) tNil)))
  (tIfS (tTest (tOp (rI0 fun i j => .bl (decide (i < j))) (tVar 1) (tVar 2)))
  (tDrop (tBM K "list" rAppend (tVar 3) (tCons (tTupP (tCons (tFld K (tVar 0) "right") (tCons (tOp (rI (fun _ j => 0 < j) fun i j => .int (i % j)) (tOp (rI0 fun i j => .int (i - j)) (tVar 1) (tVar 4)) (tCB (rLenU K) (tCons (tFld K (tVar 0) "right") tNil))) (tCons (tOp (rI0 fun i j => .int (i - j)) (tVar 2) (tVar 1)) tNil)))) tNil)))
  tNext))
  (tRet (tVar 3)))))))
theorem rd_stretches (K : PySem.W.Frag) (Z : Zs) (W : WX) : (b_stretches Z).t K W = t_stretches K Z := by kernel_rfl
noncomputable def t_Going_init (K : PySem.W.Frag) (Z : Zs) : TS :=
  (tSeq (sFld K (tVar 0) (tVar 1) "walker")
  (tSeq (sFld K (tVar 0) (tVar 2) "state")
  (tSeq (sFld K (tVar 0) (tVar 3) "goal")
  (sFld K (tVar 0) (tC (.int 0)) "done"))))
theorem rd_Going_init (K : PySem.W.Frag) (Z : Zs) (W : WX) : (b_Going_init Z).t K W = t_Going_init K Z := by kernel_rfl
noncomputable def t_Going_is_there (K : PySem.W.Frag) (Z : Zs) : TS :=
  (tRet (tOp (rEqU K) (tFld K (tVar 0) "state") (tFld K (tVar 0) "goal")))
theorem rd_Going_is_there (K : PySem.W.Frag) (Z : Zs) (W : WX) : (b_Going_is_there Z).t K W = t_Going_is_there K Z := by kernel_rfl
noncomputable def t_Going_pass_cell (K : PySem.W.Frag) (Z : Zs) : TS :=
  (tSeq (sFld K (tVar 0) (tOp (rIx K) (tMethS Z.Walker "step" (spD K (RF (F_Walker_step Z))) (fun _ => E0) (tFld K (tVar 0) "walker") (tCons (tFld K (tVar 0) "state") (tCons (tVar 1) tNil))) (tC (.int 0))) "state")
  (sFldAug K (tVar 0) (tC (.int 1)) rAdd "done"))
theorem rd_Going_pass_cell (K : PySem.W.Frag) (Z : Zs) (W : WX) : (b_Going_pass_cell Z).t K W = t_Going_pass_cell K Z := by kernel_rfl
noncomputable def t_Going_go (K : PySem.W.Frag) (Z : Zs) : TS :=
  (tSeq (tAsg (tVar 1) (gSeq K 3 (gCons (gName 2) (gCons (gName 3) (gCons (gName 4) gNil)))))
  (tSeq (sFld K (tVar 0) (tC (.int 0)) "done")
  (tSeq (tAsg tDNewK (gName 5))
  (tWhile (tAnd (tNot (tTru K (tMethS Z.Going "is_there" (spD K (RF (F_Going_is_there Z))) (fun _ => E0) (tVar 0) tNil))) (tOr (tTest (tOp (rIsN) (tVar 4) (tC .non))) (tTest (tOp (rI0 fun i j => .bl (decide (i < j))) (tFld K (tVar 0) "done") (tVar 4)))))
  (tSeq (tIfS (tAnd (tTest (tOp (rEqU K) (tOp (rI (fun _ j => 0 < j) fun i j => .int (i % j)) (tFld K (tVar 0) "done") (tCB (rLenU K) (tCons (tVar 2) tNil))) (tC (.int 0)))) (tB (tDIn (tFld K (tVar 0) "state") (tVar 5))))
  (tSeq (tIfS (tTest (tOp (rIsN) (tVar 4) (tC .non)))
  tRetN
  tNext)
  (tSeq (tAsg (tOp (rI0 fun i j => .int (i - j)) (tFld K (tVar 0) "done") (tDGet (tVar 5) (tFld K (tVar 0) "state"))) (gName 6))
  (tSeq (sFldAug K (tVar 0) (tOp (rMulU K) (tOp (rI CDivW fun i j => .int (i / j)) (tOp (rI0 fun i j => .int (i - j)) (tVar 4) (tFld K (tVar 0) "done")) (tVar 6)) (tVar 6)) rAdd "done")
  (tSeq (tAsg tDNewK (gName 5))
  (tIfS (tTest (tOp (rEqU K) (tFld K (tVar 0) "done") (tVar 4)))
  tRetN
  tNext)))))
  tNext)
  (tSeq (tIfS (tTest (tOp (rEqU K) (tOp (rI (fun _ j => 0 < j) fun i j => .int (i % j)) (tFld K (tVar 0) "done") (tCB (rLenU K) (tCons (tVar 2) tNil))) (tC (.int 0))))
  (sDPut (tVar 5) (tFld K (tVar 0) "state") (tFld K (tVar 0) "done"))
  tNext)
  (tDrop (tMethS Z.Going "pass_cell" (spM K Z.Going (RM (F_Going_pass_cell Z))) (fun _ => E0) (tVar 0) (tCons (tOp (rIx K) (tVar 2) (tOp (rI (fun _ j => 0 < j) fun i j => .int (i % j)) (tOp (rAddU K) (tVar 3) (tFld K (tVar 0) "done")) (tCB (rLenU K) (tCons (tVar 2) tNil)))) tNil)))))))))
theorem rd_Going_go (K : PySem.W.Frag) (Z : Zs) (W : WX) : (b_Going_go Z).t K W = t_Going_go K Z := by kernel_rfl
noncomputable def t_comes_to (K : PySem.W.Frag) (Z : Zs) (W : WX) : TS :=
  (tSeq (tDrop (tCallS (spD K (RF (F_need_place Z))) (WE W) (tCons (tVar 2) tNil)))
  (tSeq (tDrop (tCallS (spD K (RF (F_need_state Z))) (WE W) (tCons (tVar 0) (tCons (tVar 3) tNil))))
  (tSeq (tDrop (tCallS (spD K (RF (F_need_state Z))) (WE W) (tCons (tVar 0) (tCons (tVar 4) tNil))))
  (tSeq (tAsg (tMakeS Z.Going (spM K Z.Going (RM (F_Going_init Z))) (fun _ => E0) (tCons (tVar 0) (tCons (tVar 3) (tCons (tVar 4) tNil)))) (gName 5))
  (tSeq (tFor (iSeq K (tCall (spD K (RF (F_stretches Z))) [] E0 (tCons (tVar 1) (tCons (tVar 2) (tCons (tC .non) tNil))))) (gName 6)
  (tSeq (tDrop (tMethS Z.Going "go" (spM K Z.Going (RM (F_Going_go Z))) (fun _ => E0) (tVar 5) (tCons (tVar 6) tNil)))
  (tSeq (tIfS (tTru K (tMethS Z.Going "is_there" (spD K (RF (F_Going_is_there Z))) (fun _ => E0) (tVar 5) tNil))
  (tRet (tOp (rAddU K) (tVar 2) (tFld K (tVar 5) "done")))
  tNext)
  (tAug 2 (tFld K (tVar 5) "done") (ipI fun i j => i + j)))))
  (tRet (tC .non)))))))
theorem rd_comes_to (K : PySem.W.Frag) (Z : Zs) (W : WX) : (b_comes_to Z).t K W = t_comes_to K Z W := by kernel_rfl
noncomputable def t_l_cell (K : PySem.W.Frag) (Z : Zs) : TS :=
  (tSeq (tAsg (tOp (rAddU K) (tOp (rMulU K) (tC (.int 7919)) (tVar 1)) (tC (.int 11))) (gName 2))
  (tSeq (tIfS (tTest (tOp (rNeU K) (tVar 0) (tLst tNil)))
  (tSeq (tAsg (tOp (rMulU K) (tOp (rIx K) (tVar 0) (tOp (rI (fun _ j => 0 < j) fun i j => .int (i % j)) (tVar 1) (tCB (rLenU K) (tCons (tVar 0) tNil)))) (tC (.int 48271))) (gName 2))
  (tAsg (tOp (rAddU K) (tOp (rAddU K) (tVar 2) (tOp (rMulU K) (tC (.int 104729)) (tVar 1))) (tOp (rMulU K) (tOp (rI CDivW fun i j => .int (i / j)) (tVar 1) (tCB (rLenU K) (tCons (tVar 0) tNil))) (tC (.int 7919)))) (gName 2)))
  tNext)
  (tSeq (tAsg (tOp (rI (fun _ j => 0 < j) fun i j => .int (i % j)) (tVar 2) (tC (.int 2147483647))) (gName 3))
  (tSeq (tAsg (tOp (rI (fun _ j => 0 < j) fun i j => .int (i % j)) (tOp (rMulU K) (tVar 3) (tVar 3)) (tC (.int 2147483629))) (gName 3))
  (tRet (tOp (rI (fun _ j => 0 < j) fun i j => .int (i % j)) (tOp (rAddU K) (tOp (rAddU K) (tOp (rMulU K) (tVar 3) (tVar 3)) (tOp (rMulU K) (tC (.int 69621)) (tVar 3))) (tVar 1)) (tC (.int 2147483587))))))))
theorem rd_l_cell (K : PySem.W.Frag) (Z : Zs) (W : WX) : (b_l_cell Z).t K W = t_l_cell K Z := by kernel_rfl
noncomputable def t_l_value (K : PySem.W.Frag) (Z : Zs) : TS :=
  (tRet (tOp (rIx K) (tLst (tCons (tC .non) (tCons (tC (.int 0)) (tCons (tC (.int 1)) (tCons (tUn (rU fun i => .int (-i)) (tC (.int 1))) (tCons (tC (.int 5)) (tCons (tOp (rI0 fun i j => .int (i - j)) (tOp (rI CPow fun i j => .int (i ^ j.toNat)) (tC (.int 10)) (tC (.int 60))) (tOp (rI (fun _ j => 0 < j) fun i j => .int (i % j)) (tOp (rI CDivW fun i j => .int (i / j)) (tVar 0) (tC (.int 8))) (tC (.int 3)))) (tCons (tC .non) (tCons (tC (.int 1)) tNil))))))))) (tOp (rI (fun _ j => 0 < j) fun i j => .int (i % j)) (tVar 0) (tC (.int 8)))))
theorem rd_l_value (K : PySem.W.Frag) (Z : Zs) (W : WX) : (b_l_value Z).t K W = t_l_value K Z := by kernel_rfl
noncomputable def t_l_values (K : PySem.W.Frag) (Z : Zs) : TS :=
  (tRet (tLc (iRngW1 (tCons (tVar 2) tNil)) (gName 3) tYes (tCall (spD K (RF (F_l_value Z))) [] E0 (tCons (tCall (spD K (RF (F_l_cell Z))) [] E0 (tCons (tVar 0) (tCons (tOp (rAddU K) (tVar 1) (tVar 3)) tNil))) tNil)) [3]))
theorem rd_l_values (K : PySem.W.Frag) (Z : Zs) (W : WX) : (b_l_values Z).t K W = t_l_values K Z := by kernel_rfl
noncomputable def t_l_row (K : PySem.W.Frag) (Z : Zs) : TS :=
  (tSeq (tAsg (tCall (spD K (RF (F_l_cell Z))) [] E0 (tCons (tVar 0) (tCons (tVar 1) tNil))) (gName 2))
  (tSeq (tAsg (tCall (spD K (RF (F_l_values Z))) [] E0 (tCons (tVar 0) (tCons (tOp (rAddU K) (tVar 1) (tC (.int 10))) (tCons (tOp (rAddU K) (tC (.int 1)) (tOp (rI (fun _ j => 0 < j) fun i j => .int (i % j)) (tVar 2) (tC (.int 6)))) tNil)))) (gName 3))
  (tSeq (tAsg (tCall (spD K (RF (F_l_values Z))) [] E0 (tCons (tVar 0) (tCons (tOp (rAddU K) (tVar 1) (tC (.int 20))) (tCons (tOp (rI (fun _ j => 0 < j) fun i j => .int (i % j)) (tOp (rI CDivW fun i j => .int (i / j)) (tVar 2) (tC (.int 6))) (tC (.int 9))) tNil)))) (gName 4))
  (tSeq (tAsg (tCall (spD K (RF (F_l_values Z))) [] E0 (tCons (tVar 0) (tCons (tOp (rAddU K) (tVar 1) (tC (.int 30))) (tCons (tOp (rAddU K) (tC (.int 1)) (tOp (rI (fun _ j => 0 < j) fun i j => .int (i % j)) (tOp (rI CDivW fun i j => .int (i / j)) (tVar 2) (tC (.int 54))) (tC (.int 6)))) tNil)))) (gName 5))
  (tSeq (tAsg (tOp (rAddU K) (tOp (rIx K) (tLst (tCons (tC (.int 0)) (tCons (tC (.int 3)) (tCons (tUn (rU fun i => .int (-i)) (tC (.int 7))) (tCons (tOp (rI CPow fun i j => .int (i ^ j.toNat)) (tC (.int 10)) (tC (.int 30))) (tCons (tOp (rI0 fun i j => .int (i - j)) (tC (.int 0)) (tOp (rI CPow fun i j => .int (i ^ j.toNat)) (tC (.int 10)) (tC (.int 30)))) tNil)))))) (tOp (rI (fun _ j => 0 < j) fun i j => .int (i % j)) (tOp (rI CDivW fun i j => .int (i / j)) (tVar 2) (tC (.int 324))) (tC (.int 5)))) (tOp (rI (fun _ j => 0 < j) fun i j => .int (i % j)) (tOp (rI CDivW fun i j => .int (i / j)) (tVar 2) (tC (.int 1620))) (tC (.int 5)))) (gName 6))
  (tRet (tTupP (tCons (tCB (rTupU K) (tCons (tVar 3) tNil)) (tCons (tCB (rTupU K) (tCons (tVar 4) tNil)) (tCons (tVar 6) (tCons (tCB (rTupU K) (tCons (tVar 5) tNil)) tNil)))))))))))
theorem rd_l_row (K : PySem.W.Frag) (Z : Zs) (W : WX) : (b_l_row Z).t K W = t_l_row K Z := by kernel_rfl
noncomputable def t_l_value_at (K : PySem.W.Frag) (Z : Zs) : TS :=
  (tSeq (tAsg (tVar 0) (gSeq K 4 (gCons (gName 2) (gCons (gName 3) (gCons (gName 4) (gCons (gName 5) gNil))))))
  (tSeq (tIfS (tTest (tOp (rI0 fun i j => .bl (decide (i < j))) (tVar 1) (tVar 4)))
  (tRet (tOp (rIx K) (tVar 2) (tOp (rI (fun _ j => 0 < j) fun i j => .int (i % j)) (tOp (rI0 fun i j => .int (i - j)) (tVar 1) (tVar 4)) (tCB (rLenU K) (tCons (tVar 2) tNil)))))
  tNext)
  (tSeq (tIfS (tTest (tOp (rI0 fun i j => .bl (decide (i < j))) (tOp (rI0 fun i j => .int (i - j)) (tVar 1) (tVar 4)) (tCB (rLenU K) (tCons (tVar 3) tNil))))
  (tRet (tOp (rIx K) (tVar 3) (tOp (rI0 fun i j => .int (i - j)) (tVar 1) (tVar 4))))
  tNext)
  (tRet (tOp (rIx K) (tVar 5) (tOp (rI (fun _ j => 0 < j) fun i j => .int (i % j)) (tOp (rI0 fun i j => .int (i - j)) (tOp (rI0 fun i j => .int (i - j)) (tVar 1) (tVar 4)) (tCB (rLenU K) (tCons (tVar 3) tNil))) (tCB (rLenU K) (tCons (tVar 5) tNil))))))))
theorem rd_l_value_at (K : PySem.W.Frag) (Z : Zs) (W : WX) : (b_l_value_at Z).t K W = t_l_value_at K Z := by kernel_rfl
noncomputable def t_l_walker (K : PySem.W.Frag) (Z : Zs) : TS :=
  (tSeq (tAsg (tCall (spD K (RF (F_l_cell Z))) [] E0 (tCons (tVar 0) (tCons (tVar 1) tNil))) (gName 2))
  (tSeq (tAsg (tOp (rIx K) (tLst (tCons (tOp (rAddU K) (tC (.int 1)) (tOp (rI (fun _ j => 0 < j) fun i j => .int (i % j)) (tVar 2) (tC (.int 6)))) (tCons (tC (.int 30)) (tCons (tC (.int 2)) (tCons (tC (.int 3)) (tCons (tC (.int 5)) (tCons (tC (.int 8)) tNil))))))) (tOp (rI (fun _ j => 0 < j) fun i j => .int (i % j)) (tOp (rI CDivW fun i j => .int (i / j)) (tVar 2) (tC (.int 6))) (tC (.int 6)))) (gName 3))
  (tSeq (tAsg tTNew (gName 4))
  (tSeq (tFor (iRngW1 (tCons (tVar 3) tNil)) (gName 5)
  (tFor (iRngW1 (tCons (tC (.int 7)) tNil)) (gName 6)
  (tSeq (tAsg (tCall (spD K (RF (F_l_cell Z))) [] E0 (tCons (tVar 0) (tCons (tOp (rAddU K) (tOp (rAddU K) (tOp (rAddU K) (tVar 1) (tC (.int 1))) (tOp (rMulU K) (tC (.int 7)) (tVar 5))) (tVar 6)) tNil))) (gName 7))
  (tIfS (tTest (tOp (rI0 fun i j => .bl (decide (j < i))) (tOp (rI (fun _ j => 0 < j) fun i j => .int (i % j)) (tVar 7) (tC (.int 5))) (tC (.int 0))))
  (tSeq (tAsg (tOp (rIx K) (tLst (tCons (tOp (rI (fun _ j => 0 < j) fun i j => .int (i % j)) (tOp (rI CDivW fun i j => .int (i / j)) (tVar 7) (tC (.int 5))) (tVar 3)) (tCons (tOp (rI (fun _ j => 0 < j) fun i j => .int (i % j)) (tOp (rAddU K) (tVar 5) (tC (.int 1))) (tVar 3)) tNil))) (tOp (rI (fun _ j => 0 < j) fun i j => .int (i % j)) (tOp (rI CDivW fun i j => .int (i / j)) (tVar 7) (tC (.int 200))) (tC (.int 2)))) (gName 8))
  (sTPut K (tVar 4) (tTupP (tCons (tVar 5) (tCons (tOp (rIx K) (tLst (tCons (tC .non) (tCons (tC (.int 0)) (tCons (tC (.int 1)) (tCons (tUn (rU fun i => .int (-i)) (tC (.int 1))) (tCons (tC (.int 5)) (tCons (tOp (rI CPow fun i j => .int (i ^ j.toNat)) (tC (.int 10)) (tC (.int 60))) (tCons (tOp (rI0 fun i j => .int (i - j)) (tOp (rI CPow fun i j => .int (i ^ j.toNat)) (tC (.int 10)) (tC (.int 60))) (tC (.int 1))) tNil)))))))) (tVar 6)) tNil))) (tTupP (tCons (tVar 8) (tCons (tCall (spD K (RF (F_l_value Z))) [] E0 (tCons (tOp (rI CDivW fun i j => .int (i / j)) (tVar 7) (tC (.int 400))) tNil)) tNil)))))
  tNext))))
  (tLockP 4 (tRet (tTupP (tCons (tVar 3) (tCons (tVar 4) tNil)))))))))
theorem rd_l_walker (K : PySem.W.Frag) (Z : Zs) (W : WX) : (b_l_walker Z).t K W = t_l_walker K Z := by kernel_rfl
noncomputable def t_l_steps (K : PySem.W.Frag) (Z : Zs) : TS :=
  (tSeq (tFor (iSeq K (tVar 2)) (gName 3)
  (tAsg (tOp (rIx K) (tTGet2 K (tOp (rIx K) (tVar 0) (tC (.int 1))) (tTupP (tCons (tVar 1) (tCons (tVar 3) tNil))) (tTupP (tCons (tVar 1) (tCons (tC .non) tNil)))) (tC (.int 0))) (gName 1)))
  (tRet (tVar 1)))
theorem rd_l_steps (K : PySem.W.Frag) (Z : Zs) (W : WX) : (b_l_steps Z).t K W = t_l_steps K Z := by kernel_rfl
noncomputable def t_l_round (K : PySem.W.Frag) (Z : Zs) : TS :=
  (tSeq (tAsg (tLc (iRngW1 (tCons (tOp (rIx K) (tVar 0) (tC (.int 0))) tNil)) (gName 5) tYes (tCall (spD K (RF (F_l_steps Z))) [] E0 (tCons (tVar 0) (tCons (tVar 5) (tCons (tVar 1) tNil)))) [5]) (gName 4))
  (tSeq (tWhile (tTest (tOp (rI0 fun i j => .bl (decide (j < i))) (tVar 2) (tC (.int 0))))
  (tSeq (tIfS (tTest (tOp (rEqU K) (tOp (rI (fun _ j => 0 < j) fun i j => .int (i % j)) (tVar 2) (tC (.int 2))) (tC (.int 1))))
  (tAsg (tOp (rIx K) (tVar 4) (tVar 3)) (gName 3))
  tNext)
  (tSeq (tAsg (tLc (iSeq K (tVar 4)) (gName 5) tYes (tOp (rIx K) (tVar 4) (tVar 5)) [5]) (gName 4))
  (tAsg (tOp (rI CDivW fun i j => .int (i / j)) (tVar 2) (tC (.int 2))) (gName 2)))))
  (tRet (tVar 3))))
theorem rd_l_round (K : PySem.W.Frag) (Z : Zs) (W : WX) : (b_l_round Z).t K W = t_l_round K Z := by kernel_rfl
noncomputable def t_l_along (K : PySem.W.Frag) (Z : Zs) : TS :=
  (tSeq (tAsg (tOp (rAddU K) (tSl (rSlU K) (tVar 1) (tPart (tVar 2)) tNoPart) (tSl (rSlU K) (tVar 1) tNoPart (tPart (tVar 2)))) (gName 1))
  (tSeq (tAsg (tCall (spD K (RF (F_l_round Z))) [] E0 (tCons (tVar 0) (tCons (tVar 1) (tCons (tOp (rI CDivW fun i j => .int (i / j)) (tVar 3) (tCB (rLenU K) (tCons (tVar 1) tNil))) (tCons (tVar 4) tNil))))) (gName 4))
  (tRet (tCall (spD K (RF (F_l_steps Z))) [] E0 (tCons (tVar 0) (tCons (tVar 4) (tCons (tSl (rSlU K) (tVar 1) tNoPart (tPart (tOp (rI (fun _ j => 0 < j) fun i j => .int (i % j)) (tVar 3) (tCB (rLenU K) (tCons (tVar 1) tNil))))) tNil)))))))
theorem rd_l_along (K : PySem.W.Frag) (Z : Zs) (W : WX) : (b_l_along Z).t K W = t_l_along K Z := by kernel_rfl
noncomputable def t_l_state_at (K : PySem.W.Frag) (Z : Zs) : TS :=
  (tSeq (tAsg (tVar 1) (gSeq K 4 (gCons (gName 5) (gCons (gName 6) (gCons (gName 7) (gCons (gName 8) gNil))))))
  (tSeq (tAsg (tOp (rAddU K) (tVar 7) (tCB (rLenU K) (tCons (tVar 6) tNil))) (gName 9))
  (tSeq (tIfS (tTest (tOp (rI0 fun i j => .bl (decide (i < j))) (tVar 2) (tVar 7)))
  (tSeq (tAsg (tCB (rMn2) (tCons (tVar 7) (tCons (tVar 4) tNil))) (gName 10))
  (tSeq (tAsg (tCall (spD K (RF (F_l_along Z))) [] E0 (tCons (tVar 0) (tCons (tVar 5) (tCons (tOp (rI (fun _ j => 0 < j) fun i j => .int (i % j)) (tOp (rI0 fun i j => .int (i - j)) (tVar 2) (tVar 7)) (tCB (rLenU K) (tCons (tVar 5) tNil))) (tCons (tOp (rI0 fun i j => .int (i - j)) (tVar 10) (tVar 2)) (tCons (tVar 3) tNil)))))) (gName 3))
  (tAsg (tVar 10) (gName 2))))
  tNext)
  (tSeq (tIfS (tTest (tOp (rI0 fun i j => .bl (decide (i < j))) (tVar 2) (tCB (rMn2) (tCons (tVar 9) (tCons (tVar 4) tNil)))))
  (tSeq (tAsg (tCall (spD K (RF (F_l_steps Z))) [] E0 (tCons (tVar 0) (tCons (tVar 3) (tCons (tSl (rSlU K) (tVar 6) (tPart (tOp (rI0 fun i j => .int (i - j)) (tVar 2) (tVar 7))) (tPart (tOp (rI0 fun i j => .int (i - j)) (tCB (rMn2) (tCons (tVar 9) (tCons (tVar 4) tNil))) (tVar 7)))) tNil)))) (gName 3))
  (tAsg (tCB (rMn2) (tCons (tVar 9) (tCons (tVar 4) tNil))) (gName 2)))
  tNext)
  (tSeq (tIfS (tTest (tOp (rI0 fun i j => .bl (decide (i < j))) (tVar 2) (tVar 4)))
  (tAsg (tCall (spD K (RF (F_l_along Z))) [] E0 (tCons (tVar 0) (tCons (tVar 8) (tCons (tOp (rI (fun _ j => 0 < j) fun i j => .int (i % j)) (tOp (rI0 fun i j => .int (i - j)) (tVar 2) (tVar 9)) (tCB (rLenU K) (tCons (tVar 8) tNil))) (tCons (tOp (rI0 fun i j => .int (i - j)) (tVar 4) (tVar 2)) (tCons (tVar 3) tNil)))))) (gName 3))
  tNext)
  (tRet (tVar 3)))))))
theorem rd_l_state_at (K : PySem.W.Frag) (Z : Zs) (W : WX) : (b_l_state_at Z).t K W = t_l_state_at K Z := by kernel_rfl
noncomputable def t_l_met (K : PySem.W.Frag) (Z : Zs) : TS :=
  (tSeq (tFor (iRngW1 (tCons (tOp (rAddU K) (tVar 5) (tC (.int 1))) tNil)) (gName 6)
  (tSeq (tIfS (tTest (tOp (rEqU K) (tVar 3) (tVar 4)))
  (tRet (tTupP (tCons (tVar 6) (tCons (tVar 3) tNil))))
  tNext)
  (tIfS (tTest (tOp (rI0 fun i j => .bl (decide (i < j))) (tVar 6) (tVar 5)))
  (tAsg (tCall (spD K (RF (F_l_steps Z))) [] E0 (tCons (tVar 0) (tCons (tVar 3) (tCons (tLst (tCons (tCall (spD K (RF (F_l_value_at Z))) [] E0 (tCons (tVar 1) (tCons (tOp (rAddU K) (tVar 2) (tVar 6)) tNil))) tNil)) tNil)))) (gName 3))
  tNext)))
  (tRet (tTupP (tCons (tC .non) (tCons (tVar 3) tNil)))))
theorem rd_l_met (K : PySem.W.Frag) (Z : Zs) (W : WX) : (b_l_met Z).t K W = t_l_met K Z := by kernel_rfl
noncomputable def t_l_due (K : PySem.W.Frag) (Z : Zs) : TS :=
  (tSeq (tAsg (tVar 1) (gSeq K 4 (gCons (gName 5) (gCons (gName 6) (gCons (gName 7) (gCons (gName 8) gNil))))))
  (tSeq (tIfS (tTest (tOp (rI0 fun i j => .bl (decide (i < j))) (tVar 2) (tVar 7)))
  (tSeq (tAsg (tCB (rMn2) (tCons (tOp (rI0 fun i j => .int (i - j)) (tVar 7) (tVar 2)) (tCons (tOp (rMulU K) (tOp (rAddU K) (tOp (rIx K) (tVar 0) (tC (.int 0))) (tC (.int 1))) (tCB (rLenU K) (tCons (tVar 5) tNil))) tNil))) (gName 9))
  (tSeq (tAsg (tCall (spD K (RF (F_l_met Z))) [] E0 (tCons (tVar 0) (tCons (tVar 1) (tCons (tVar 2) (tCons (tVar 3) (tCons (tVar 4) (tCons (tVar 9) tNil))))))) (gSeq K 2 (gCons (gName 10) (gCons (gName 11) gNil))))
  (tSeq (tIfS (tTest (tOp (rNotN) (tVar 10) (tC .non)))
  (tRet (tOp (rAddU K) (tVar 2) (tVar 10)))
  tNext)
  (tSeq (tAsg (tCall (spD K (RF (F_l_state_at Z))) [] E0 (tCons (tVar 0) (tCons (tVar 1) (tCons (tVar 2) (tCons (tVar 3) (tCons (tVar 7) tNil)))))) (gName 3))
  (tAsg (tVar 7) (gName 2))))))
  tNext)
  (tSeq (tAsg (tOp (rAddU K) (tCB (rMx2) (tCons (tC (.int 0)) (tCons (tOp (rI0 fun i j => .int (i - j)) (tOp (rAddU K) (tVar 7) (tCB (rLenU K) (tCons (tVar 6) tNil))) (tVar 2)) tNil))) (tOp (rMulU K) (tOp (rAddU K) (tOp (rIx K) (tVar 0) (tC (.int 0))) (tC (.int 1))) (tCB (rLenU K) (tCons (tVar 8) tNil)))) (gName 9))
  (tSeq (tAsg (tCall (spD K (RF (F_l_met Z))) [] E0 (tCons (tVar 0) (tCons (tVar 1) (tCons (tVar 2) (tCons (tVar 3) (tCons (tVar 4) (tCons (tVar 9) tNil))))))) (gSeq K 2 (gCons (gName 10) (gCons (gName 11) gNil))))
  (tSeq (tIfS (tTest (tOp (rIsN) (tVar 10) (tC .non)))
  (tRet (tC .non))
  tNext)
  (tRet (tOp (rAddU K) (tVar 2) (tVar 10))))))))
theorem rd_l_due (K : PySem.W.Frag) (Z : Zs) (W : WX) : (b_l_due Z).t K W = t_l_due K Z := by kernel_rfl
noncomputable def t_law (K : PySem.W.Frag) (Z : Zs) : TS :=
  (tSeq (tAsg (tLst (tCons (tCall (spD K (RF (F_l_row Z))) [] E0 (tCons (tVar 0) (tCons (tC (.int 0)) tNil))) (tCons (tCall (spD K (RF (F_l_row Z))) [] E0 (tCons (tVar 0) (tCons (tC (.int 50)) tNil))) tNil))) (gName 1))
  (tSeq (tAsg (tLc (iSeq K (tVar 1)) (gName 3) tYes (tMakeS Z.Row (spI K Z.Row (RI Z.Row (F_Row_init Z))) (fun _ => E0) (tCons (tOp (rIx K) (tVar 3) (tC (.int 0))) (tCons (tOp (rIx K) (tVar 3) (tC (.int 1))) (tCons (tOp (rIx K) (tVar 3) (tC (.int 2))) (tCons (tOp (rIx K) (tVar 3) (tC (.int 3))) tNil))))) [3]) (gName 2))
  (tSeq (tAsg (tLst (tCons (tCall (spD K (RF (F_l_walker Z))) [] E0 (tCons (tVar 0) (tCons (tC (.int 100)) tNil))) (tCons (tCall (spD K (RF (F_l_walker Z))) [] E0 (tCons (tVar 0) (tCons (tC (.int 400)) tNil))) tNil))) (gName 4))
  (tSeq (tAsg (tLc (iSeq K (tVar 4)) (gName 6) tYes (tMakeS Z.Walker (spI K Z.Walker (RI Z.Walker (F_Walker_init Z))) (fun _ => E0) (tCons (tOp (rIx K) (tVar 6) (tC (.int 0))) (tCons (tOp (rIx K) (tVar 6) (tC (.int 1))) tNil))) [6]) (gName 5))
  (tSeq (tFor (iRngW1 (tCons (tOp (rAddU K) (tCB (rMn2) (tCons (tC (.int 63)) (tCons (tCB (rLenU K) (tCons (tVar 0) tNil)) tNil))) (tC (.int 4))) tNil)) (gName 7)
  (tSeq (tAsg (tCall (spD K (RF (F_l_cell Z))) [] E0 (tCons (tVar 0) (tCons (tOp (rAddU K) (tC (.int 1000)) (tOp (rMulU K) (tC (.int 4)) (tVar 7))) tNil))) (gName 8))
  (tSeq (tAsg (tOp (rIx K) (tVar 4) (tOp (rI (fun _ j => 0 < j) fun i j => .int (i % j)) (tOp (rI CDivW fun i j => .int (i / j)) (tVar 7) (tC (.int 2))) (tC (.int 2)))) (gName 6))
  (tSeq (tAsg (tOp (rMulU K) (tCall (spD K (RF (F_l_cell Z))) [] E0 (tCons (tVar 0) (tCons (tOp (rAddU K) (tC (.int 1001)) (tOp (rMulU K) (tC (.int 4)) (tVar 7))) tNil))) (tOp (rIx K) (tLst (tCons (tOp (rI CPow fun i j => .int (i ^ j.toNat)) (tC (.int 10)) (tC (.int 21))) (tCons (tOp (rI CPow fun i j => .int (i ^ j.toNat)) (tC (.int 10)) (tC (.int 51))) tNil))) (tOp (rI (fun _ j => 0 < j) fun i j => .int (i % j)) (tOp (rI CDivW fun i j => .int (i / j)) (tVar 8) (tC (.int 7))) (tC (.int 2))))) (gName 9))
  (tSeq (tAsg (tOp (rAddU K) (tOp (rIx K) (tOp (rIx K) (tVar 1) (tOp (rI (fun _ j => 0 < j) fun i j => .int (i % j)) (tVar 7) (tC (.int 2)))) (tC (.int 2))) (tOp (rIx K) (tLst (tCons (tOp (rI0 fun i j => .int (i - j)) (tOp (rI (fun _ j => 0 < j) fun i j => .int (i % j)) (tVar 8) (tC (.int 60))) (tC (.int 30))) (tCons (tOp (rI0 fun i j => .int (i - j)) (tC (.int 0)) (tVar 9)) (tCons (tVar 9) (tCons (tOp (rI0 fun i j => .int (i - j)) (tC (.int 0)) (tOp (rI (fun _ j => 0 < j) fun i j => .int (i % j)) (tVar 8) (tOp (rI CPow fun i j => .int (i ^ j.toNat)) (tC (.int 10)) (tC (.int 5))))) tNil))))) (tOp (rI (fun _ j => 0 < j) fun i j => .int (i % j)) (tOp (rI CDivW fun i j => .int (i / j)) (tVar 8) (tC (.int 60))) (tC (.int 4))))) (gName 10))
  (tSeq (tAsg (tOp (rI (fun _ j => 0 < j) fun i j => .int (i % j)) (tCall (spD K (RF (F_l_cell Z))) [] E0 (tCons (tVar 0) (tCons (tOp (rAddU K) (tC (.int 1002)) (tOp (rMulU K) (tC (.int 4)) (tVar 7))) tNil))) (tOp (rIx K) (tVar 6) (tC (.int 0)))) (gName 11))
  (tSeq (tAsg (tOp (rIx K) (tLst (tCons (tOp (rI (fun _ j => 0 < j) fun i j => .int (i % j)) (tCall (spD K (RF (F_l_cell Z))) [] E0 (tCons (tVar 0) (tCons (tOp (rAddU K) (tC (.int 1003)) (tOp (rMulU K) (tC (.int 4)) (tVar 7))) tNil))) (tOp (rIx K) (tVar 6) (tC (.int 0)))) (tCons (tVar 11) tNil))) (tOp (rI CDivW fun i j => .int (i / j)) (tOp (rI (fun _ j => 0 < j) fun i j => .int (i % j)) (tOp (rI CDivW fun i j => .int (i / j)) (tVar 8) (tC (.int 240))) (tC (.int 8))) (tC (.int 7)))) (gName 12))
  (tSeq (tAsg (tCall (spD K (RF (F_l_due Z))) [] E0 (tCons (tVar 6) (tCons (tOp (rIx K) (tVar 1) (tOp (rI (fun _ j => 0 < j) fun i j => .int (i % j)) (tVar 7) (tC (.int 2)))) (tCons (tVar 10) (tCons (tVar 11) (tCons (tVar 12) tNil)))))) (gName 13))
  (tSeq (tAsg (tCall (spD K (RF (F_comes_to Z))) [] E0 (tCons (tOp (rIx K) (tVar 5) (tOp (rI (fun _ j => 0 < j) fun i j => .int (i % j)) (tOp (rI CDivW fun i j => .int (i / j)) (tVar 7) (tC (.int 2))) (tC (.int 2)))) (tCons (tOp (rIx K) (tVar 2) (tOp (rI (fun _ j => 0 < j) fun i j => .int (i % j)) (tVar 7) (tC (.int 2)))) (tCons (tVar 10) (tCons (tVar 11) (tCons (tVar 12) tNil)))))) (gName 14))
  (tIfS (tOr (tTest (tOp (rNeU K) (tOp (rIsN) (tVar 14) (tC .non)) (tOp (rIsN) (tVar 13) (tC .non)))) (tOr (tTest (tOp (rNeU K) (tVar 14) (tVar 13))) (tTru K (tCB (rIsU K) (tCons (tVar 14) (tCons (tC (.ty "bool")) tNil))))))
  (tRet (tC (.bl false)))
  tNext))))))))))
  (tRet (tOp (rEqU K) (tLc (iSeq K (tVar 2)) (gName 3) tYes (tMethS Z.Row "told" (spD K (RF (F_Row_told Z))) (fun _ => E0) (tVar 3) tNil) [3]) (tVar 1))))))))
theorem rd_law (K : PySem.W.Frag) (Z : Zs) (W : WX) : (b_law Z).t K W = t_law K Z := by kernel_rfl
end Far
namespace Far
open PySem L2
local macro_rules | `(tactic| walk_at "dd") => `(tactic| first | assumption | omega | (simp; done) | (simp only [List.length_map, List.length_append, List.length_cons, List.length_nil, List.length_take, List.length_drop, List.length_reverse, List.length_range, List.length_replicate]; omega))
abbrev isPl (x : D) : Bool := isTy x "int" && !isTy x "bool"
abbrev dE : Option Int → D
  | none => .non
  | some i => .int i
abbrev dS (s : Option Int × Option Int) : D := .tup [dE s.1, dE s.2]
abbrev isE (x : D) : Bool := isNon x || isPl x
def knownAll : D → Bool
  | .tup xs => xs.all known
  | .lst xs => xs.all known
  | x => known x
abbrev dO : Option (Option Int × Option Int) → D
  | none => .non
  | some s => dS s
def cell (ns : List Int) (k : Int) : Int :=
  let c := match ns with | [] => 7919 * k + 11 | _ => (ns.getD (k % ns.length).toNat 0 * 48271 + 104729 * k) + k / ns.length * 7919
  let m := c % 2147483647
  let m := m * m % 2147483629
  (m * m + 69621 * m + k) % 2147483587
theorem cell_pos (ns : List Int) (k : Int) : 0 ≤ cell ns k ∧ cell ns k < 2147483587 := by
  unfold cell
  exact ⟨Int.emod_nonneg _ (by decide), Int.emod_lt_of_pos _ (by decide)⟩
def farS (c : Int) (m : Int) : Nat → Int
  | 0 => 1
  | n + 1 => farS c m n * (c + n) % m
def placeL (c : Int) : List Int := [c / 6 % 21 - 10, c / 6 % 21 - 10, c / 6 % 201 - 100, farS c (10 ^ 30) 4, -farS c (10 ^ 30) 4, 0]
def place (c : Int) : Int := (placeL c).getD (c % 6).toNat 0
abbrev vsD (ring : List (Option Int)) : List D := ring.map dE
def areV (x : D) (f : Int) : Bool := match x with
  | .tup ys => decide (f ≤ ys.length) && decide (ys.length ≤ 4000) && ys.all isE
  | .lst ys => decide (f ≤ ys.length) && decide (ys.length ≤ 4000) && ys.all isE
  | _ => false
def tell (ring : List (Option Int)) (p : Int) : Option Int := ring.getD (p % ring.length).toNat none
theorem isE_dE (o : Option Int) : isE (dE o) = true := by cases o <;> simp [isNon, isTy_int_int, isTy_int_bool]
theorem known_dE (o : Option Int) : known (dE o) = true := by cases o <;> rfl
theorem all_isE (ring : List (Option Int)) : (vsD ring).all isE = true := by
  rw [List.all_eq_true]; intro x hx; obtain ⟨o, _, rfl⟩ := List.mem_map.mp hx; exact isE_dE o
theorem all_known (ring : List (Option Int)) : (vsD ring).all known = true := by
  rw [List.all_eq_true]; intro x hx; obtain ⟨o, _, rfl⟩ := List.mem_map.mp hx; exact known_dE o
theorem tell_at {ring : List (Option Int)} {q : Int} (h0 : 0 ≤ q) (h1 : q < ring.length) : L2.atI (vsD ring) q = some (dE (ring.getD q.toNat none)) := by
  rw [atI_getD (d := dE none) h0 (by rw [List.length_map]; exact h1)]
  congr 1
  rw [List.getD_eq_getElem?_getD, List.getElem?_map, List.getD_eq_getElem?_getD]
  cases ring[q.toNat]? <;> rfl
theorem tell_mod {ring : List (Option Int)} (hne : ring ≠ []) (p : Int) : L2.atI (vsD ring) (p % ring.length) = some (dE (tell ring p)) := by
  have hp : (0 : Int) < ring.length := by have : 0 < ring.length := List.length_pos_iff.mpr hne; omega
  exact tell_at (Int.emod_nonneg _ (by omega)) (Int.emod_lt_of_pos _ hp)
theorem len_vsD (ring : List (Option Int)) : (vsD ring).length = ring.length := List.length_map ..
theorem eqv_dE (a b : Option Int) : PyData.eqv (pd (dE a)) (pd (dE b)) = decide (a = b) := by
  cases a <;> cases b <;> simp [pd, PyData.eqv] <;> rw [Bool.eq_iff_iff] <;> simp
theorem eqvA_vs : ∀ a b : List (Option Int), PyData.eqvAll (pdL (vsD a)) (pdL (vsD b)) = decide (a = b)
  | [], [] => by simp [pdL, PyData.eqvAll]
  | [], _ :: _ => by simp [pdL, PyData.eqvAll]
  | _ :: _, [] => by simp [pdL, PyData.eqvAll]
  | x :: a, y :: b => by
    show PyData.eqvAll (pd (dE x) :: pdL (vsD a)) (pd (dE y) :: pdL (vsD b)) = _
    simp only [PyData.eqvAll, eqv_dE, eqvA_vs a b]
    rw [Bool.eq_iff_iff]; simp
theorem pur_dE (o : Option Int) : pur (dE o) = true := by cases o <;> rfl
theorem purL_vs : ∀ a : List (Option Int), purL (vsD a) = true
  | [] => rfl
  | x :: a => by show (pur (dE x) && purL (vsD a)) = true; rw [pur_dE, purL_vs a]; rfl
theorem pur_vsT (a : List (Option Int)) : pur (.tup (vsD a)) = true := purL_vs a
theorem depL_vs : ∀ a : List (Option Int), PyData.depthAll (pdL (vsD a)) = 0
  | [] => rfl
  | x :: a => by
    show PyData.depthAll (pd (dE x) :: pdL (vsD a)) = 0
    simp only [PyData.depthAll, depL_vs a]
    cases x <;> simp [pd, PyData.depth]
@[simp] theorem ks_dE (o : Option Int) : known (dE o) = true := known_dE o
@[simp] theorem isNon_dE (o : Option Int) : isNon (dE o) = o.isNone := by cases o <;> rfl
theorem atI_tell {ring : List (Option Int)} (hne : ring ≠ []) (p : Int) : L2.atI (vsD ring) (p % ring.length) = some (dE (tell ring p)) := tell_mod hne p
theorem pos_len {α : Type} {l : List α} (h : l ≠ []) : (0 : Int) < l.length := by have : 0 < l.length := List.length_pos_iff.mpr h; omega
@[simp] theorem length_vsD (r : List (Option Int)) : (vsD r).length = r.length := List.length_map ..
@[simp] theorem isNon_exc {C : Addr} {fs : List (Str × D)} : isNon (.exc C fs) = false := (rfl)
@[simp] theorem isNon_ins {C : Addr} {fs : List (Str × D)} : isNon (.ins C fs) = false := (rfl)
@[simp] theorem isNon_int {i : Int} : isNon (.int i) = false := (rfl)
@[simp] theorem isNon_tup {xs : List D} : isNon (.tup xs) = false := (rfl)
@[simp] theorem isNon_lst {xs : List D} : isNon (.lst xs) = false := (rfl)
@[simp] theorem isNon_str {z : Str} : isNon (.str z) = false := (rfl)
@[simp] theorem isNon_non : isNon .non = true := (rfl)
@[simp] theorem isNon_bl {b : Bool} : isNon (.bl b) = false := (rfl)
@[simp] theorem isNon_dK {k : List (Key × D)} : isNon (.dK k) = false := (rfl)
@[simp] theorem isNon_dP {k : List (Key × D)} : isNon (.dP k) = false := (rfl)
@[simp] theorem known_dP {k : List (Key × D)} : known (.dP k) = true := (rfl)
@[simp] theorem sdp1 {k : List (Key × D)} : isTy (.dP k) "int" = false := isTy_dP_int
@[simp] theorem sdk1 {k : List (Key × D)} : isTy (.dK k) "int" = false := isTy_dK_int
@[simp] theorem sdp2 {k : List (Key × D)} : isTy (.dP k) "bool" = false := isTy_dP_bool
@[simp] theorem sdk2 {k : List (Key × D)} : isTy (.dK k) "bool" = false := isTy_dK_bool
@[simp] theorem sdp3 {k : List (Key × D)} : isTy (.dP k) "tuple" = false := isTy_dP_tuple
@[simp] theorem sdk3 {k : List (Key × D)} : isTy (.dK k) "tuple" = false := isTy_dK_tuple
@[simp] theorem sdp4 {k : List (Key × D)} : isTy (.dP k) "list" = false := isTy_dP_list
@[simp] theorem sdk4 {k : List (Key × D)} : isTy (.dK k) "list" = false := isTy_dK_list
@[simp] theorem sdp5 {k : List (Key × D)} : isTy (.dP k) "str" = false := isTy_dP_str
@[simp] theorem sdk5 {k : List (Key × D)} : isTy (.dK k) "str" = false := isTy_dK_str
theorem atI_ex {α : Type} (P : α → Prop) {xs : List α} {i : Int} (h0 : 0 ≤ i) (h1 : i < xs.length) (h : ∀ x ∈ xs, P x) : ∃ x, L2.atI xs i = some x ∧ P x := by
  have hi : i.toNat < xs.length := by omega
  refine ⟨xs[i.toNat], ?_, h _ (List.getElem_mem hi)⟩
  rw [atI_getD (d := xs[i.toNat]) h0 h1, List.getD_eq_getElem?_getD, List.getElem?_eq_getElem hi]; rfl
theorem atI_exI (P : Int → Prop) {xs : List Int} {ys : List D} {i : Int} (e : ys = xs.map D.int) (h0 : 0 ≤ i) (h1 : i < xs.length) (h : ∀ x ∈ xs, P x) : ∃ v : Int, L2.atI ys i = some (.int v) ∧ P v := by
  subst e
  obtain ⟨x, h, v, rfl, hp⟩ := atI_ex (fun x => ∃ v, x = D.int v ∧ P v) (xs := xs.map D.int) h0 (by rw [List.length_map]; exact h1) (fun x hx => by obtain ⟨v, hv, rfl⟩ := List.mem_map.mp hx; exact ⟨v, rfl, h v hv⟩)
  exact ⟨v, h, hp⟩
theorem atI_exM {xs : List (Option Int)} {ys : List D} {i : Int} (e : ys = vsD xs) (h0 : 0 ≤ i) (h1 : i < xs.length) : ∃ v ∈ xs, L2.atI ys i = some (dE v) := by
  subst e
  obtain ⟨x, h, v, hv, rfl⟩ := atI_ex (fun x => ∃ v ∈ xs, x = dE v) (xs := vsD xs) h0 (by rw [len_vsD]; exact h1) (fun x hx => by obtain ⟨v, hv, rfl⟩ := List.mem_map.mp hx; exact ⟨v, hv, rfl⟩)
  exact ⟨v, hv, h⟩
theorem lcF_exP (P : Option Int → Prop) {st : D → M (Option D)} {lo : Int} {n : Nat} (h : ∀ i, i < n → ∃ v : Option Int, P v ∧ st (.int (lo + (i : Int))) = .ok (some (dE v))) : ∃ vs : List (Option Int), vs.length = n ∧ (∀ v ∈ vs, P v) ∧ lcF st (rg lo n) = .ok (vsD vs) := by
  refine ⟨(List.range n).map fun i => if q : i < n then (h i q).choose else none, by simp, fun v hv => ?_, ?_⟩
  · obtain ⟨i, hi, rfl⟩ := List.mem_map.mp hv
    have hi := List.mem_range.mp hi
    simp only [hi, ↓reduceDIte]
    exact (h i hi).choose_spec.1
  · unfold vsD
    rw [List.map_map]
    exact lcF_rg fun i hi => by
      have := (h i hi).choose_spec.2
      simp only [Function.comp, hi, ↓reduceDIte]
      exact this
section
variable {g : List S → D → Option (List S)} {body : List S → Fl} {vs : List Nat} {δ δ1 δ2 : List S} {y : D} {ys : List D} {s : S}
theorem forF_nil : forF g body vs [] δ = .nx δ := rfl
theorem forF_nx (h1 : g δ y = some δ1) (h2 : body δ1 = .nx δ2) : forF g body vs (y :: ys) δ = forF g body vs ys (wpF vs δ2) := by rw [forF, h1]; simp only [h2]
theorem forF_rt (h1 : g δ y = some δ1) (h2 : body δ1 = .rt s) : forF g body vs (y :: ys) δ = .rt s := by rw [forF, h1]; simp only [h2]
/-- a for by what holds of the slots ahead of each item; R of what it ends in -/
theorem forF_pred {R : Fl → Prop} (P : Nat → List S → Prop) (h : ∀ i y δ, ys[i]? = some y → P i δ → ∃ δ1, g δ y = some δ1 ∧ ((∃ δ2, (body δ1 = .nx δ2 ∨ body δ1 = .ct δ2) ∧ P (i + 1) (wpF vs δ2)) ∨ (∃ s, body δ1 = .rt s ∧ R (.rt s)) ∨ (∃ δ2, body δ1 = .bk δ2 ∧ R (.nx δ2)))) (he : ∀ δ, P ys.length δ → R (.nx δ)) (h0 : P 0 δ) : R (forF g body vs ys δ) := by
  have main : ∀ (n : Nat) (zs : List D) (δ : List S), zs = ys.drop n → n ≤ ys.length → P n δ → R (forF g body vs zs δ) := by
    intro n zs
    induction zs generalizing n with
    | nil =>
      intro δ e hn p
      have : n = ys.length := by
        have := congrArg List.length e
        rw [List.length_drop, List.length_nil] at this; omega
      subst this; exact he δ p
    | cons z r ih =>
      intro δ e hn p
      have hlt : n < ys.length := by
        have := congrArg List.length e
        rw [List.length_drop, List.length_cons] at this; omega
      rw [List.drop_eq_getElem_cons hlt] at e
      obtain ⟨rfl, er⟩ := List.cons.inj e
      obtain ⟨δ1, h1, h2⟩ := h n _ δ (List.getElem?_eq_getElem hlt) p
      unfold forF
      rw [h1]
      rcases h2 with ⟨δ2, h2, h3⟩ | ⟨s, h2, h3⟩ | ⟨δ2, h2, h3⟩
      · rcases h2 with h2 | h2 <;> (simp only [h2]; exact ih (n + 1) _ er hlt h3)
      · simp only [h2]; exact h3
      · simp only [h2]; exact h3
  exact main 0 ys δ rfl (Nat.zero_le _) h0
end
theorem areV_known {x : D} (ys : List D) (hx : x = .tup ys ∨ x = .lst ys) (f : Int) : areV x f = (decide (f ≤ ys.length) && decide (ys.length ≤ 4000) && ys.all isE) := by
  rcases hx with rfl | rfl <;> rfl
structure RowV where
  l : List (Option Int)
  m : List (Option Int)
  f : Int
  r : List (Option Int)
def RowV.e (x : RowV) : Int := x.f + (x.m.length : Int)
def cellR (x : RowV) (p : Int) : Option Int := if p - x.f < 0 then tell x.l (p - x.f) else if p - x.f < (x.m.length : Int) then x.m.getD (p - x.f).toNat none else tell x.r (p - x.f - (x.m.length : Int))
abbrev rowD (Z : Zs) (x : RowV) : D := .ins Z.Row [("left", .tup (vsD x.l)), ("middle", .tup (vsD x.m)), ("first", .int x.f), ("right", .tup (vsD x.r))]
structure RowOk (x : RowV) : Prop where
  l0 : x.l ≠ []
  l1 : x.l.length ≤ 4000
  r0 : x.r ≠ []
  r1 : x.r.length ≤ 4000
theorem tell_addI {r : List (Option Int)} (x k : Int) : tell r (x + k * r.length) = tell r x := by
  unfold tell; rw [Int.add_mul_emod_self_right]
/-- a sequence without end comes round by k -/
def Per (c : Int → Option Int) (k : Int) : Prop := ∀ p, c (p + k) = c p
theorem Per.mul {c : Int → Option Int} {k : Int} (h : Per c k) : ∀ n : Int, Per c (n * k) := by
  have nat : ∀ n : Nat, Per c ((n : Int) * k) := by
    intro n
    induction n with
    | zero => intro p; simp
    | succ n ih => intro p; rw [show p + ((n + 1 : Nat) : Int) * k = p + (n : Int) * k + k by push_cast; rw [Int.add_mul]; omega, h, ih]
  intro n p
  rcases Int.le_total 0 n with q | q
  · obtain ⟨m, rfl⟩ := Int.eq_ofNat_of_zero_le q; exact nat m p
  · obtain ⟨m, hm⟩ := Int.eq_ofNat_of_zero_le (a := -n) (by omega)
    have := nat m (p + n * k)
    rw [show p + n * k + (m : Int) * k = p by rw [← hm, Int.neg_mul]; omega] at this
    exact this.symm
theorem Per.tell (r : List (Option Int)) : Per (tell r) r.length := fun p => by
  have := tell_addI (r := r) p 1
  rwa [Int.one_mul] at this
theorem Per.sub {c : Int → Option Int} {a b : Int} (h : Per c a) (k : Per c b) (n : Int) : Per c (b - n * a) := fun p => by
  have := h.mul (-n) (p + b)
  rw [show p + (b - n * a) = p + b + -n * a by rw [Int.neg_mul]; omega, this, k]
abbrev toldD (x : RowV) : D := .tup [.tup (vsD x.l), .tup (vsD x.m), .int x.f, .tup (vsD x.r)]
def nxE (es : List (List KO × D)) (s : Int) (v : Option Int) : Int := match valTD es [some s, v] with
  | some (.tup (.int g :: _)) => g
  | _ => s
def outE (es : List (List KO × D)) (s : Int) (v : Option Int) : D := match valTD es [some s, v] with
  | some (.tup [_, w]) => w
  | _ => dE v
structure TabE (es : List (List KO × D)) (n : Int) : Prop where
  all : ∀ p ∈ es, ∃ (s : Int) (v : Option Int) (g : Int) (w : Option Int), p = ([some s, v], .tup [.int g, dE w]) ∧ (0 ≤ s ∧ s < n) ∧ 0 ≤ g ∧ g < n
  hash : tcopyB es = true
  len : es.length ≤ 1000
theorem valTD_mem {es : List (List KO × D)} {k : List KO} {x : D} (h : valTD es k = some x) : (k, x) ∈ es := by
  unfold valTD at h
  obtain ⟨p, hp, rfl⟩ := Option.map_eq_some_iff.mp h
  have h1 := List.mem_of_find?_eq_some hp
  have h2 := List.find?_some hp
  have h2 : p.1 = k := of_decide_eq_true h2
  subst h2; exact h1
theorem TabE.val {es : List (List KO × D)} {n : Int} (h : TabE es n) (s : Int) (v : Option Int) : valTD es [some s, v] = none ∨ ∃ (g : Int) (w : Option Int), valTD es [some s, v] = some (.tup [.int g, dE w]) ∧ 0 ≤ g ∧ g < n := by
  cases e : valTD es [some s, v] with
  | none => exact .inl rfl
  | some x =>
    obtain ⟨s', v', g, w, e1, _, h3⟩ := h.all _ (valTD_mem e)
    obtain ⟨_, e3⟩ := Prod.mk.inj e1
    exact .inr ⟨g, w, by rw [e3], h3⟩
theorem TabE.nx {es : List (List KO × D)} {n s : Int} (h : TabE es n) (hs : 0 ≤ s ∧ s < n) (v : Option Int) : 0 ≤ nxE es s v ∧ nxE es s v < n := by
  unfold nxE
  rcases h.val s v with e | ⟨g, w, e, h1, h2⟩
  · rw [e]; exact hs
  · rw [e]; exact ⟨h1, h2⟩
theorem keyO_dE (v : Option Int) : keyO (dE v) = some v := by cases v <;> rfl
theorem keyT_sv (s : Int) (v : Option Int) : keyT (.tup [.int s, dE v]) = some [some s, v] := by
  rw [keyT_2, keyO_dE]; rfl
theorem TabE.getD {es : List (List KO × D)} {n : Int} (h : TabE es n) (s : Int) (v : Option Int) : (valTD es [some s, v]).getD (.tup [.int s, dE v]) = .tup [.int (nxE es s v), outE es s v] := by
  unfold nxE outE
  rcases h.val s v with e | ⟨g, w, e, _⟩
  · rw [e]; rfl
  · rw [e]; rfl
theorem TabE.getD0 {es : List (List KO × D)} {n : Int} (h : TabE es n) (s : Int) (v : Option Int) (z : D) : ∃ w, (valTD es [some s, v]).getD (.tup [.int s, z]) = .tup [.int (nxE es s v), w] := by
  unfold nxE
  rcases h.val s v with e | ⟨g, w, e, _⟩
  · rw [e]; exact ⟨_, rfl⟩
  · rw [e]; exact ⟨_, rfl⟩
/-- the state behind k cells from p on -/
def stI (es : List (List KO × D)) (c : Int → Option Int) (p : Int) : Nat → Int → Int
  | 0, s => s
  | k + 1, s => nxE es (stI es c p k s) (c (p + (k : Int)))
theorem stI_rg {es : List (List KO × D)} {n s : Int} {c : Int → Option Int} {p : Int} (h : TabE es n) (hs : 0 ≤ s ∧ s < n) : ∀ k, 0 ≤ stI es c p k s ∧ stI es c p k s < n
  | 0 => hs
  | k + 1 => h.nx (stI_rg h hs k) _
theorem stI_add {es : List (List KO × D)} {c : Int → Option Int} {p s : Int} (i : Nat) : ∀ j, stI es c p (i + j) s = stI es c (p + (i : Int)) j (stI es c p i s)
  | 0 => rfl
  | j + 1 => by
    show nxE es (stI es c p (i + j) s) (c (p + ((i + j : Nat) : Int))) = nxE es (stI es c (p + (i : Int)) j (stI es c p i s)) (c (p + (i : Int) + (j : Int)))
    rw [stI_add i j]
    have e : p + ((i + j : Nat) : Int) = p + (i : Int) + (j : Int) := by omega
    rw [e]
theorem stI_congr {es : List (List KO × D)} {c c' : Int → Option Int} {p p' s : Int} : ∀ {k : Nat}, (∀ i : Nat, i < k → c (p + (i : Int)) = c' (p' + (i : Int))) → stI es c p k s = stI es c' p' k s
  | 0, _ => rfl
  | k + 1, h => by
    show nxE es _ _ = nxE es _ _
    rw [stI_congr (k := k) fun i hi => h i (by omega), h k (by omega)]
theorem stI_per {es : List (List KO × D)} {c : Int → Option Int} {p s r : Int} {k : Nat} (h : Per c r) : stI es c (p + r) k s = stI es c p k s := stI_congr fun i _ => by
  have := h (p + (i : Int))
  rw [← this]; congr 1; omega
/-- a state that comes again -/
theorem stI_cyc {es : List (List KO × D)} {c : Int → Option Int} {p s : Int} {j r : Nat} (h : Per c (r : Int)) (e : stI es c p (j + r) s = stI es c p j s) (t : Nat) : stI es c p (j + r + t) s = stI es c p (j + t) s := by
  rw [stI_add (j + r) t, stI_add j t, e]
  have e2 : p + ((j + r : Nat) : Int) = p + (j : Int) + (r : Int) := by omega
  rw [e2]; exact stI_per h
theorem stI_cycM {es : List (List KO × D)} {c : Int → Option Int} {p s : Int} {j r : Nat} (h : Per c (r : Int)) (e : stI es c p (j + r) s = stI es c p j s) : ∀ m : Nat, stI es c p (j + m * r) s = stI es c p j s
  | 0 => by rw [Nat.zero_mul]; rfl
  | m + 1 => by
    have := stI_cyc h e (m * r)
    rw [show j + (m + 1) * r = j + r + m * r by rw [Nat.add_mul]; omega, this, stI_cycM h e m]
/-- all that is met behind was met ahead -/
theorem stI_met {es : List (List KO × D)} {c : Int → Option Int} {p s : Int} {j r : Nat} (h : Per c (r : Int)) (hr : 0 < r) (e : stI es c p (j + r) s = stI es c p j s) : ∀ i, j ≤ i → ∃ i', j ≤ i' ∧ i' < j + r ∧ stI es c p i s = stI es c p i' s := by
  intro i
  induction i using Nat.strongRecOn with
  | _ i ih =>
    intro hi
    rcases Nat.lt_or_ge i (j + r) with q | q
    · exact ⟨i, hi, q, rfl⟩
    · obtain ⟨i', h1, h2, h3⟩ := ih (i - r) (by omega) (by omega)
      refine ⟨i', h1, h2, ?_⟩
      rw [← h3]
      have := stI_cyc h e (i - r - j)
      rw [show j + r + (i - r - j) = i by omega, show j + (i - r - j) = i - r by omega] at this
      exact this
theorem nodup_le : ∀ (n : Nat) (l : List Int), l.Nodup → (∀ x ∈ l, 0 ≤ x ∧ x < (n : Int)) → l.length ≤ n
  | 0, l, _, h => by
    cases l with
    | nil => exact Nat.le_refl _
    | cons x l => have := h x List.mem_cons_self; omega
  | n + 1, l, hn, h => by
    have h1 := nodup_le n (l.erase (n : Int)) (hn.erase _) fun x hx => by
      have h2 := (hn.mem_erase_iff).mp hx
      have h3 := h x h2.2
      have : x ≠ (n : Int) := h2.1
      omega
    by_cases q : (n : Int) ∈ l
    · have := List.length_erase_of_mem q; omega
    · rw [List.erase_of_not_mem q] at h1; omega
theorem per_tell (l : List (Option Int)) : Per (tell l) (l.length : Int) := fun p => by
  have := tell_addI (r := l) p 1
  rw [Int.one_mul] at this; exact this
theorem per_tellM (l : List (Option Int)) (k : Nat) : Per (tell l) ((k * l.length : Nat) : Int) := by
  rw [Int.natCast_mul]; exact (per_tell l).mul _
theorem rfo_dE {Cs : List Addr} {ll : Bool} (v : Option Int) : rfo Cs ll (dE v) = true := by cases v <;> rfl
/-- a walker -/
abbrev wkD (Z : Zs) (n : Int) (es : List (List KO × D)) : D := .ins Z.Walker [("states", .int n), ("table", .dT es)]
/-- one on its way -/
abbrev goF (W : D) (s : Int) (g : Option Int) (d : Int) : List (Str × D) := [("walker", W), ("state", .int s), ("goal", dE g), ("done", .int d)]
/-- what was seen: the states at b0, b0 + L, .. -/
def seenL (st : Nat → Int) (L b0 k : Nat) : List (Key × D) := (List.range k).map fun i => (.inl (st (b0 + i * L)), .int ((b0 + i * L : Nat) : Int))
theorem seenL_val {st : Nat → Int} {L b0 k : Nat} {s : Int} {x : D} (e : valD (seenL st L b0 k) (.inl s) = some x) : ∃ i : Nat, i < k ∧ st (b0 + i * L) = s ∧ x = .int ((b0 + i * L : Nat) : Int) := by
  unfold valD at e
  obtain ⟨p, hp, rfl⟩ := Option.map_eq_some_iff.mp e
  have h4 : p.1 = .inl s := of_decide_eq_true (List.find?_some (p := fun kv : Key × D => decide (kv.1 = .inl s)) hp)
  obtain ⟨i, hi, rfl⟩ := List.mem_map.mp (List.mem_of_find?_eq_some hp)
  exact ⟨i, List.mem_range.mp hi, by simpa using h4, rfl⟩
theorem seenL_none {st : Nat → Int} {L b0 k : Nat} {s : Int} (e : valD (seenL st L b0 k) (.inl s) = none) : s ∉ (List.range k).map fun i => st (b0 + i * L) := by
  intro h
  obtain ⟨i, hi, rfl⟩ := List.mem_map.mp h
  unfold valD at e
  rw [Option.map_eq_none_iff, List.find?_eq_none] at e
  exact e _ (List.mem_map.mpr ⟨i, hi, rfl⟩) (by simp)
theorem seenL_put {st : Nat → Int} {L b0 k d : Nat} (hd : d = b0 + k * L) (e : valD (seenL st L b0 k) (.inl (st d)) = none) : putKD (seenL st L b0 k) (.inl (st d)) (.int (d : Int)) = seenL st L b0 (k + 1) := by
  unfold putKD
  rw [if_neg]
  · subst hd
    unfold seenL
    rw [List.range_succ, List.map_append]; rfl
  · intro z
    obtain ⟨q, hq, z⟩ := List.any_eq_true.mp z
    unfold valD at e
    rw [Option.map_eq_none_iff, List.find?_eq_none] at e
    exact e q hq z
theorem seenL_len {st : Nat → Int} {L b0 k : Nat} : (seenL st L b0 k).length = k := by unfold seenL; rw [List.length_map, List.length_range]
theorem keys_le {st : Nat → Int} {L b0 k n : Nat} (h : ((List.range k).map fun i => st (b0 + i * L)).Nodup) (hs : ∀ i, 0 ≤ st i ∧ st i < (n : Int)) : k ≤ n := by
  have := nodup_le n _ h fun x hx => by
    obtain ⟨i, _, rfl⟩ := List.mem_map.mp hx; exact hs _
  rwa [List.length_map, List.length_range] at this
theorem keys_put {st : Nat → Int} {L b0 k d : Nat} (h : ((List.range k).map fun i => st (b0 + i * L)).Nodup) (hd : d = b0 + k * L) (e : st d ∉ (List.range k).map fun i => st (b0 + i * L)) : ((List.range (k + 1)).map fun i => st (b0 + i * L)).Nodup := by
  rw [List.range_succ, List.map_append, List.nodup_append]
  refine ⟨h, by simp, fun a ha b hb => ?_⟩
  simp at hb
  subst hb
  intro z
  subst z
  subst hd
  exact e ha
/-- the first place with a property, or the last -/
theorem first_ex (P : Nat → Prop) [DecidablePred P] : ∀ m : Nat, ∃ d, d ≤ m ∧ (∀ i, i < d → ¬ P i) ∧ (d = m ∨ P d)
  | 0 => ⟨0, Nat.le_refl _, fun i h => by omega, .inl rfl⟩
  | m + 1 => by
    obtain ⟨d, h1, h2, h3⟩ := first_ex P m
    rcases h3 with rfl | h3
    · by_cases q : P d
      · exact ⟨d, by omega, h2, .inr q⟩
      · refine ⟨d + 1, by omega, fun i hi => ?_, .inl rfl⟩
        by_cases z : i = d
        · subst z; exact q
        · exact h2 i (by omega)
    · exact ⟨d, by omega, h2, .inr h3⟩
theorem first_uniq {P : Nat → Prop} {m d e : Nat} (h1 : d ≤ m) (h2 : ∀ i, i < d → ¬ P i) (h3 : d = m ∨ P d) (k1 : e ≤ m) (k2 : ∀ i, i < e → ¬ P i) (k3 : e = m ∨ P e) : d = e := by
  rcases Nat.lt_trichotomy d e with q | q | q
  · rcases h3 with z | z
    · omega
    · exact (k2 d q z).elim
  · exact q
  · rcases k3 with z | z
    · omega
    · exact (h2 e q z).elim
/-- where a walk along one stretch is: its state came again behind a whole number of rounds -/
structure GoP (st : Nat → Int) (g : Option Int) (L m : Nat) (q : Nat × Nat × Nat) : Prop where
  dm : q.1 ≤ m
  ng : ∀ i, i < q.1 → g ≠ some (st i)
  b0 : q.2.1 % L = 0
  bd : q.2.1 ≤ q.1
  db : q.1 ≤ q.2.1 + q.2.2 * L
  kd : ∀ i, i < q.2.2 → q.2.1 + i * L < q.1
  nd : ((List.range q.2.2).map fun i => st (q.2.1 + i * L)).Nodup
theorem mod_eq_of {L a b : Nat} (hL : 0 < L) (ha : a % L = 0) (hb : b % L = 0) (h1 : a ≤ b) : ∃ t, b = a + t * L := by
  refine ⟨b / L - a / L, ?_⟩
  have e1 := Nat.div_add_mod a L
  have e2 := Nat.div_add_mod b L
  rw [ha, Nat.add_zero] at e1
  rw [hb, Nat.add_zero] at e2
  have h := Nat.div_le_div_right (c := L) h1
  rw [Nat.sub_mul, Nat.mul_comm (b / L), Nat.mul_comm (a / L), e1, e2]; omega
theorem GoP.at {st : Nat → Int} {g : Option Int} {L m d b0 k : Nat} (h : GoP st g L m (d, b0, k)) (hL : 0 < L) (hd : d % L = 0) : d = b0 + k * L := by
  obtain ⟨t, ht⟩ := mod_eq_of hL h.b0 hd h.bd
  have h1 : d ≤ b0 + k * L := h.db
  have ht : d = b0 + t * L := ht
  have h2 : t ≤ k := by
    rcases Nat.lt_or_ge k t with q | q
    · have := Nat.mul_le_mul_right L (show k + 1 ≤ t from q)
      rw [Nat.add_mul] at this; omega
    · exact q
  rcases Nat.lt_or_ge t k with q | q
  · have := h.kd t q
    have : b0 + t * L < d := this
    omega
  · have : t = k := by omega
    subst this; exact ht
/-- a cell is passed -/
theorem GoP.step {st : Nat → Int} {g : Option Int} {L m d b0 k : Nat} (h : GoP st g L m (d, b0, k)) (hL : 0 < L) (hm : d < m) (hg : g ≠ some (st d)) (hd : ¬ d % L = 0) : GoP st g L m (d + 1, b0, k) where
  dm := hm
  ng := fun i hi => by
    by_cases z : i = d
    · subst z; exact hg
    · exact h.ng i (by have : i < d + 1 := hi; show i < d; omega)
  b0 := h.b0
  bd := by have : b0 ≤ d := h.bd; show b0 ≤ d + 1; omega
  db := by
    have h1 : d ≤ b0 + k * L := h.db
    show d + 1 ≤ b0 + k * L
    rcases Nat.lt_or_ge d (b0 + k * L) with q | q
    · exact q
    · exfalso
      have e : d = b0 + k * L := by omega
      apply hd
      have b : b0 % L = 0 := h.b0
      rw [e, Nat.add_mul_mod_self_right]; exact b
  kd := fun i hi => by have : b0 + i * L < d := h.kd i hi; show b0 + i * L < d + 1; omega
  nd := h.nd
theorem GoP.stepP {st : Nat → Int} {g : Option Int} {L m d b0 k : Nat} (h : GoP st g L m (d, b0, k)) (hL : 0 < L) (hm : d < m) (hg : g ≠ some (st d)) (hd : d % L = 0) (hn : st d ∉ (List.range k).map fun i => st (b0 + i * L)) : GoP st g L m (d + 1, b0, k + 1) where
  dm := hm
  ng := fun i hi => by
    by_cases z : i = d
    · subst z; exact hg
    · exact h.ng i (by have : i < d + 1 := hi; show i < d; omega)
  b0 := h.b0
  bd := by have : b0 ≤ d := h.bd; show b0 ≤ d + 1; omega
  db := by
    have e := h.at hL hd
    show d + 1 ≤ b0 + (k + 1) * L
    rw [Nat.add_mul]; omega
  kd := fun i hi => by
    have e := h.at hL hd
    have hi : i < k + 1 := hi
    show b0 + i * L < d + 1
    have := Nat.mul_le_mul_right L (show i ≤ k by omega)
    omega
  nd := keys_put h.nd (h.at hL hd) hn
/-- rounds are passed over -/
theorem GoP.skip {st : Nat → Int} {g : Option Int} {L m d b0 k D : Nat} (h : GoP st g L m (d, b0, k)) (hL : 0 < L) (hd : d % L = 0) (hD : D % L = 0) (hm : D ≤ m) (hl : d ≤ D) (hg : ∀ i, i < D → g ≠ some (st i)) : GoP st g L m (D, D, 0) :=
  ⟨hm, hg, hD, Nat.le_refl _, by simp, fun i hi => (by cases hi), by simp⟩
/-- rounds that come again, passed over -/
theorem skip_all {es : List (List KO × D)} {vs : List (Option Int)} {b s : Int} {g : Option Int} {m e j t : Nat} (hL : 0 < vs.length) (hj : j + (t + 1) * vs.length = e) (hm : e < m) (eq : stI es (tell vs) b j s = stI es (tell vs) b e s) (ng : ∀ i, i < e → g ≠ some (stI es (tell vs) b i s)) :
    e + (m - e) / (e - j) * (e - j) ≤ m ∧ stI es (tell vs) b (e + (m - e) / (e - j) * (e - j)) s = stI es (tell vs) b e s ∧ (∀ i, i < e + (m - e) / (e - j) * (e - j) → g ≠ some (stI es (tell vs) b i s)) ∧ ∃ u, e + (m - e) / (e - j) * (e - j) = e + u * vs.length := by
  have hr : e - j = (t + 1) * vs.length := by omega
  have r0 : 0 < (t + 1) * vs.length := Nat.mul_pos (by omega) hL
  have hjr : j + (t + 1) * vs.length = e := hj
  have P := per_tellM vs (t + 1)
  rw [hr]
  generalize hR : (t + 1) * vs.length = r at *
  have e0 : stI es (tell vs) b (j + r) s = stI es (tell vs) b j s := by rw [hjr, eq]
  generalize hq : (m - e) / r = q
  have h1 : q * r ≤ m - e := by rw [← hq]; exact Nat.div_mul_le_self _ _
  refine ⟨by omega, ?_, fun i hi => ?_, q * (t + 1), by rw [← hR, Nat.mul_assoc]⟩
  · have := stI_cycM P e0 (q + 1)
    rw [Nat.add_mul, Nat.one_mul, show j + (q * r + r) = e + q * r by omega] at this
    rw [this, eq]
  · rcases Nat.lt_or_ge i e with h | h
    · exact ng i h
    · obtain ⟨i', h2, h3, h4⟩ := stI_met P r0 e0 i (by omega)
      rw [h4]; exact ng i' (by omega)
def valsW : List (Option Int) := [none, some 0, some 1, some (-1), some 5, some 1000000000000000000000000000000000000000000000000000000000000, some 999999999999999999999999999999999999999999999999999999999999]
def keyW (i j : Nat) : List KO := [some (i : Int), valsW.getD j none]
def keysW (i j : Nat) : List (List KO) := ((List.range i).flatMap fun s => (List.range 7).map (keyW s)) ++ (List.range j).map (keyW i)
theorem keysW_7 (i : Nat) : keysW i 7 = keysW (i + 1) 0 := by
  unfold keysW
  rw [List.range_succ (n := i), List.flatMap_append]
  simp
theorem keysW_s (i j : Nat) : keysW i (j + 1) = keysW i j ++ [keyW i j] := by
  unfold keysW
  rw [List.range_succ (n := j), List.map_append, List.append_assoc]; rfl
theorem valsW_inj : ∀ s, s < 7 → ∀ t, t < 7 → valsW.getD s none = valsW.getD t none → s = t := by decide
theorem keyW_new {i j : Nat} (hj : j < 7) : keyW i j ∉ keysW i j := by
  intro h
  unfold keysW at h
  rcases List.mem_append.mp h with h | h
  · obtain ⟨s, hs, h⟩ := List.mem_flatMap.mp h
    obtain ⟨t, _, e⟩ := List.mem_map.mp h
    have hs := List.mem_range.mp hs
    unfold keyW at e
    simp at e
    omega
  · obtain ⟨t, ht, e⟩ := List.mem_map.mp h
    have ht := List.mem_range.mp ht
    unfold keyW at e
    have := valsW_inj t (by omega) j hj (by simpa using e)
    omega
theorem keysW_mono (n : Nat) : ∀ k, (keysW n 0).Sublist (keysW (n + k) 0)
  | 0 => List.Sublist.refl _
  | k + 1 => (keysW_mono n k).trans (by
    rw [show n + (k + 1) = n + k + 1 from rfl, ← keysW_7]
    unfold keysW
    rw [show (List.range 0).map (keyW (n + k)) = [] from rfl, List.append_nil]
    exact List.sublist_append_left _ _)
theorem keysW_len (n : Nat) : (keysW n 0).length = 7 * n := by
  induction n with
  | zero => rfl
  | succ n ih =>
    rw [← keysW_7]
    have : keysW n 7 = keysW n 0 ++ (List.range 7).map (keyW n) := by unfold keysW; simp
    rw [this, List.length_append, ih]; simp; omega
theorem hashes_apart : ((keysW 30 0).map hT).Nodup := by decide +kernel
structure DrawW (n : Int) (i j : Nat) (es : List (List KO × D)) : Prop where
  all : ∀ p ∈ es, ∃ (s : Int) (v : Option Int) (g : Int) (w : Option Int), p = ([some s, v], .tup [.int g, dE w]) ∧ (0 ≤ s ∧ s < n) ∧ 0 ≤ g ∧ g < n
  sub : (es.map (·.1)).Sublist (keysW i j)
theorem DrawW.pass {n : Int} {i j : Nat} {es : List (List KO × D)} (h : DrawW n i j es) : DrawW n i (j + 1) es := ⟨h.all, h.sub.trans (by rw [keysW_s]; exact List.sublist_append_left _ _)⟩
theorem DrawW.put {n : Int} {i j : Nat} {es : List (List KO × D)} {g : Int} {w : Option Int} (h : DrawW n i j es) (hi : (i : Int) < n) (hj : j < 7) (hg : 0 ≤ g ∧ g < n) : putTD es (keyW i j) (.tup [.int g, dE w]) = es ++ [(keyW i j, .tup [.int g, dE w])] ∧ DrawW n i (j + 1) (es ++ [(keyW i j, .tup [.int g, dE w])]) := by
  constructor
  · unfold putTD
    rw [if_neg]
    intro z
    obtain ⟨q, hq, z⟩ := List.any_eq_true.mp z
    have z : q.1 = keyW i j := of_decide_eq_true z
    exact keyW_new hj (h.sub.subset (by rw [← z]; exact List.mem_map.mpr ⟨q, hq, rfl⟩))
  · refine ⟨fun p hp => ?_, ?_⟩
    · rcases List.mem_append.mp hp with hp | hp
      · exact h.all p hp
      · simp at hp
        exact ⟨(i : Int), valsW.getD j none, g, w, hp, ⟨by omega, hi⟩, hg⟩
    · rw [List.map_append, keysW_s]
      exact h.sub.append (List.Sublist.refl _)
theorem DrawW.len {n : Int} {i j : Nat} {es : List (List KO × D)} (h : DrawW n i j es) (hi : i < 30) (hj : j ≤ 7) : es.length ≤ 217 := by
  have h1 := h.sub.length_le
  have h2 : (keysW i j).length ≤ 217 := by
    have h3 := keysW_len i
    have h4 : keysW i j = keysW i 0 ++ (List.range j).map (keyW i) := by unfold keysW; simp
    rw [h4, List.length_append, h3]; simp; omega
  rw [List.length_map] at h1; omega
theorem DrawW.tab {n : Nat} {es : List (List KO × D)} (h : DrawW (n : Int) n 0 es) (hn : n ≤ 30) : TabE es (n : Int) where
  all := h.all
  hash := by
    unfold tcopyB
    refine decide_eq_true ?_
    have h1 := (h.sub.trans (keysW_mono n (30 - n))).map hT
    rw [show n + (30 - n) = 30 by omega, List.map_map] at h1
    exact hashes_apart.sublist h1
  len := by
    have h1 := h.sub.length_le
    rw [List.length_map, keysW_len] at h1; omega
theorem dKO_dE (v : Option Int) : dKO v = dE v := by cases v <;> rfl
theorem TabE.at {es : List (List KO × D)} {n : Int} (h : TabE es n) {p : List KO × D} (hp : p ∈ es) : ∃ (s : Int) (v : Option Int) (g : Int) (w : Option Int), D.tup (p.1.map dKO) = .tup [.int s, dE v] ∧ (0 ≤ s ∧ s < n) ∧ (0 ≤ g ∧ g < n) ∧ valTD es [some s, v] = some (.tup [.int g, dE w]) := by
  obtain ⟨s, v, g, w, rfl, h1, h2⟩ := h.all p hp
  refine ⟨s, v, ?_⟩
  rcases h.val s v with e | ⟨g', w', e, h3⟩
  · unfold valTD at e
    rw [Option.map_eq_none_iff, List.find?_eq_none] at e
    exact (e _ hp (by simp)).elim
  · exact ⟨g', w', by rw [← dKO_dE v]; rfl, h1, h3, e⟩
/-- parts of a walk along a row -/
structure Part where
  vs : List (Option Int)
  b : Int
  m : Nat
def partD (q : Part) : D := .tup [.tup (vsD q.vs), .int q.b, .int (q.m : Int)]
/-- parts that tell the cells from p on -/
inductive Along (c : Int → Option Int) : Int → List Part → Int → Prop
  | nil {p : Int} : Along c p [] p
  | cons {p e : Int} {q : Part} {r : List Part} : q.vs ≠ [] → q.vs.length ≤ 4000 → (∀ i : Nat, i < q.m → tell q.vs (q.b + (i : Int)) = c (p + (i : Int))) → Along c (p + (q.m : Int)) r e → Along c p (q :: r) e
theorem Along.app {c : Int → Option Int} {p e f : Int} {q r : List Part} (h : Along c p q e) (k : Along c e r f) : Along c p (q ++ r) f := by
  induction h with
  | nil => exact k
  | cons a b d _ ih => exact .cons a b d (ih k)
theorem Along.le {c : Int → Option Int} {p e : Int} {q : List Part} (h : Along c p q e) : p ≤ e := by
  induction h with
  | nil => exact Int.le_refl _
  | cons a b d _ ih => omega
theorem isi_dict {T : Tab} {x : D} {es : List (List KO × D)} (hx : x = .dT es ∨ x = .dU es) : isiF T [x, .ty "dict"] = some (.d (.bl true)) := by
  have hk : tyOf T x = some (.inr "dict") := by rcases hx with rfl | rfl <;> rfl
  show (tyOf T x).bind (fun t => (oneI T t (.ty "dict")).map fun b => S.d (.bl b)) = _
  rw [hk]
  show ((kitB "dict" "dict").map fun b => S.d (.bl b)) = _
  rw [show kitB "dict" "dict" = some true by decide +kernel]; rfl
/-- rounds -/
def itN (f : Int → Int) : Nat → Int → Int
  | 0, s => s
  | m + 1, s => itN f m (f s)
theorem itN_add (f : Int → Int) (s : Int) : ∀ a b, itN f (a + b) s = itN f b (itN f a s)
  | 0, b => by rw [Nat.zero_add]; rfl
  | a + 1, b => by
    rw [show a + 1 + b = a + b + 1 by omega]
    show itN f (a + b) (f s) = itN f b (itN f a (f s))
    exact itN_add f (f s) a b
theorem itN_P {f : Int → Int} {P : Int → Prop} (k : ∀ s, P s → P (f s)) : ∀ m s, P s → P (itN f m s)
  | 0, _, p => p
  | m + 1, s, p => itN_P k m _ (k s p)
/-- rounds of a wheel are cells -/
theorem itN_st {es : List (List KO × D)} {c : Int → Option Int} {L : Nat} {p : Int} (h : Per c (L : Int)) : ∀ m s, itN (fun s => stI es c p L s) m s = stI es c p (m * L) s
  | 0, s => by rw [Nat.zero_mul]; rfl
  | m + 1, s => by
    show itN _ m (stI es c p L s) = _
    rw [itN_st h m, show (m + 1) * L = L + m * L by rw [Nat.add_mul]; omega, stI_add L (m * L)]
    exact (stI_per h).symm
theorem atI_mapN {α : Type} {f : α → D} {vs : List α} {i : Nat} {v : α} (h : vs[i]? = some v) : L2.atI (vs.map f) (i : Int) = some (f v) := by
  have hl := (List.getElem?_eq_some_iff.mp h).1
  rw [atI_getD (d := .non) (by omega) (by rw [List.length_map]; omega), List.getD_eq_getElem?_getD, List.getElem?_map, Int.toNat_natCast, h]; rfl
/-- a map told as a list -/
def tabI (n : Nat) (f : Int → Int) : List D := (List.range n).map fun (i : Nat) => D.int (f (i : Int))
theorem tabI_at {n : Nat} {f : Int → Int} {s : Int} (h : 0 ≤ s ∧ s < (n : Int)) : L2.atI (tabI n f) s = some (.int (f s)) := by
  obtain ⟨i, rfl⟩ := Int.eq_ofNat_of_zero_le h.1
  have hi : i < n := by omega
  unfold tabI
  exact atI_mapN (f := fun (i : Nat) => D.int (f (i : Int))) (List.getElem?_range hi)
theorem cut_midD {xs : List D} {a b : Int} (h0 : 0 ≤ a) (h1 : a ≤ b) (h2 : b ≤ xs.length) : cutD xs (some a) (some b) = (xs.drop a.toNat).take (b - a).toNat := by
  unfold cutD HT.sIx
  simp only
  rw [if_neg (by omega), if_neg (by omega)]
  congr 1
  · omega
  · congr 1; omega
theorem rfoT_all {Cs : List Addr} {ll : Bool} : ∀ {es : List (List KO × D)}, (∀ p ∈ es, rfo Cs ll p.2 = true) → rfo.rfoT Cs ll es = true
  | [], _ => by rw [rfo.rfoT]
  | (k, x) :: r, h => by
    rw [rfo.rfoT, Bool.and_eq_true]
    exact ⟨h (k, x) List.mem_cons_self, rfoT_all fun p hp => h p (List.mem_cons_of_mem _ hp)⟩
theorem TabE.rfoT {Cs : List Addr} {ll : Bool} {es : List (List KO × D)} {n : Int} (h : TabE es n) : Far.rfo.rfoT Cs ll es = true := rfoT_all fun p hp => by
  obtain ⟨s, v, g, w, rfl, _⟩ := h.all p hp
  cases w <;> rfl
theorem TabE.rfo {Cs : List Addr} {ll : Bool} {es : List (List KO × D)} {n : Int} (h : TabE es n) : Far.rfo Cs ll (.dT es) = true := by
  rw [Far.rfo]
  exact rfoT_all fun p hp => by
    obtain ⟨s, v, g, w, rfl, _⟩ := h.all p hp
    cases w <;> rfl
theorem TabE.same {es : List (List KO × D)} {n : Int} (h : TabE es n) : sameT es es = true := sameT_refl fun p hp => by
  obtain ⟨s, v, g, w, rfl, _⟩ := h.all p hp
  rw [keyT_sv]; rfl
theorem told_pur (x : RowV) : pur (toldD x) = true := by
  show purL [.tup (vsD x.l), .tup (vsD x.m), .int x.f, .tup (vsD x.r)] = true
  simp [purL, pur_vsT]; rfl
theorem told_dep (x : RowV) : (pd (toldD x)).depth ≤ 4 := by
  have := depL_vs x.l; have := depL_vs x.m; have := depL_vs x.r
  simp [pd, pdL, PyData.depth, PyData.depthAll, *]
theorem told_eqv (x : RowV) : PyData.eqv (pd (toldD x)) (pd (toldD x)) = true := by
  have := eqvA_vs x.l x.l; have := eqvA_vs x.m x.m; have := eqvA_vs x.r x.r
  simp [pd, pdL, PyData.eqv, PyData.eqvAll, *]
theorem tolds_pur : ∀ xs : List RowV, purL (xs.map toldD) = true
  | [] => rfl
  | x :: t => by
    have a := told_pur x
    have b := tolds_pur t
    rw [List.map_cons]
    generalize toldD x = T at *
    generalize t.map toldD = W at *
    simp [purL, a, b]
theorem tolds_dep : ∀ xs : List RowV, PyData.depthAll (pdL (xs.map toldD)) ≤ 4
  | [] => by simp [pdL, PyData.depthAll]
  | x :: t => by
    have a := told_dep x
    have b := tolds_dep t
    rw [List.map_cons]
    generalize toldD x = T at *
    generalize t.map toldD = W at *
    simp [pdL, PyData.depthAll]; omega
theorem tolds_eqv : ∀ xs : List RowV, PyData.eqvAll (pdL (xs.map toldD)) (pdL (xs.map toldD)) = true
  | [] => by simp [pdL, PyData.eqvAll]
  | x :: t => by
    have a := told_eqv x
    have b := tolds_eqv t
    rw [List.map_cons]
    generalize toldD x = T at *
    generalize t.map toldD = W at *
    simp [pdL, PyData.eqvAll, a, b]
theorem tolds_cmp (xs ys : List RowV) : cmpD (.lst (xs.map toldD)) (.lst (ys.map toldD)) = true := by
  have p : ∀ xs : List RowV, pur (.lst (xs.map toldD)) = true := tolds_pur
  have d : ∀ xs : List RowV, (pd (.lst (xs.map toldD))).depth ≤ 64 := fun xs => by
    have := tolds_dep xs
    generalize xs.map toldD = W at *
    simp [pd, PyData.depth]; omega
  unfold cmpD; rw [p, p, decide_eq_true (d _), decide_eq_true (d _)]; rfl
theorem eqF2_tolds (xs : List RowV) : eqF2 (.lst (xs.map toldD)) (.lst (xs.map toldD)) = some (.d (.bl true)) := by
  have e : eqD (.lst (xs.map toldD)) (.lst (xs.map toldD)) = true := by
    show PyData.eqv (pd _) (pd _) = true
    have := tolds_eqv xs
    generalize xs.map toldD = W at *
    simp [pd, PyData.eqv, this]
  rw [eqF2_of (tolds_cmp xs xs) (fun _ z => by cases z), e]
/-- the place where a walk along a wheel without end is given up: its state was there at an earlier round's begin -/
def Again (st : Nat → Int) (L i : Nat) : Prop := i % L = 0 ∧ ∃ j, j < i ∧ j % L = 0 ∧ st j = st i
theorem again_never {es : List (List KO × D)} {vs : List (Option Int)} {b s : Int} {g : Option Int} {i : Nat} (hL : 0 < vs.length) (h : Again (fun i => stI es (tell vs) b i s) vs.length i) (ng : ∀ j, j < i → ¬ g = some (stI es (tell vs) b j s)) : ∀ j, ¬ g = some (stI es (tell vs) b j s) := by
  obtain ⟨h1, j, h2, h3, h4⟩ := h
  obtain ⟨t, ht⟩ := mod_eq_of hL h3 h1 (by omega)
  have h4 : stI es (tell vs) b j s = stI es (tell vs) b i s := h4
  have t0 : 0 < t := by
    rcases Nat.eq_zero_or_pos t with z | z
    · subst z; omega
    · exact z
  have r0 : 0 < t * vs.length := Nat.mul_pos t0 hL
  intro k
  rcases Nat.lt_or_ge k i with q | q
  · exact ng k q
  · obtain ⟨k', k1, k2, k3⟩ := stI_met (per_tellM vs t) r0 (s := s) (es := es) (p := b) (j := j) (by rw [← ht, h4]) k (by omega)
    rw [k3]; exact ng k' (by omega)
theorem not_nodup : ∀ (l : List Int), ¬ l.Nodup → ∃ i j, i < j ∧ j < l.length ∧ l[i]? = l[j]?
  | [], h => (h List.nodup_nil).elim
  | a :: l, h => by
    by_cases q : a ∈ l
    · obtain ⟨j, hj, e⟩ := List.getElem_of_mem q
      refine ⟨0, j + 1, by omega, by simp; exact hj, ?_⟩
      simp [List.getElem?_eq_getElem hj, e]
    · obtain ⟨i, j, h1, h2, h3⟩ := not_nodup l (fun z => h (List.nodup_cons.mpr ⟨q, z⟩))
      exact ⟨i + 1, j + 1, by omega, by simp; exact h2, by simpa using h3⟩
/-- .. it comes within as many rounds as there are states -/
theorem again_ex {st : Nat → Int} {L n : Nat} (hL : 0 < L) (rg : ∀ i, 0 ≤ st i ∧ st i < (n : Int)) : ∃ i, i ≤ n * L ∧ Again st L i := by
  have h : ¬ ((List.range (n + 1)).map fun i => st (i * L)).Nodup := fun z => by
    have := nodup_le n _ z fun x hx => by
      obtain ⟨i, _, rfl⟩ := List.mem_map.mp hx; exact rg _
    rw [List.length_map, List.length_range] at this; omega
  obtain ⟨i, j, h1, h2, h3⟩ := not_nodup _ h
  rw [List.length_map, List.length_range] at h2
  rw [List.getElem?_map, List.getElem?_map, List.getElem?_range (by omega), List.getElem?_range h2] at h3
  have h3 : st (i * L) = st (j * L) := by simpa using h3
  refine ⟨j * L, Nat.mul_le_mul_right L (by omega), by rw [Nat.mul_mod_left], i * L, (Nat.mul_lt_mul_right hL).mpr h1, by rw [Nat.mul_mod_left], h3⟩
/-- what is not met within so many rounds is never met -/
theorem never_met {es : List (List KO × D)} {vs : List (Option Int)} {b s : Int} {g : Option Int} {n M : Nat} (hT : TabE es (n : Int)) (hs : 0 ≤ s ∧ s < (n : Int)) (hL : 0 < vs.length) (hM : n * vs.length ≤ M) (ng : ∀ j, j < M → ¬ g = some (stI es (tell vs) b j s)) : ∀ j, ¬ g = some (stI es (tell vs) b j s) := by
  obtain ⟨i, h1, h2⟩ := again_ex (st := fun i => stI es (tell vs) b i s) hL (fun i => stI_rg hT hs i)
  exact again_never hL h2 fun j hj => ng j (by omega)
/-- the first place at which the state is the goal -/
def IsGoal (es : List (List KO × D)) (c : Int → Option Int) (p s g : Int) (o : Option Int) : Prop := match o with
  | some q => ∃ d : Nat, q = p + (d : Int) ∧ stI es c p d s = g ∧ ∀ i, i < d → ¬ stI es c p i s = g
  | none => ∀ i, ¬ stI es c p i s = g
theorem IsGoal.uniq {es : List (List KO × D)} {c : Int → Option Int} {p s g : Int} {o u : Option Int} (h : IsGoal es c p s g o) (k : IsGoal es c p s g u) : o = u := by
  cases o with
  | none =>
    cases u with
    | none => rfl
    | some q => obtain ⟨d, _, e, _⟩ := k; exact (h d e).elim
  | some q =>
    obtain ⟨d, rfl, e, n⟩ := h
    cases u with
    | none => exact (k d e).elim
    | some q =>
      obtain ⟨d', rfl, e', n'⟩ := k
      rcases Nat.lt_trichotomy d d' with z | z | z
      · exact (n' d z e).elim
      · rw [z]
      · exact (n d' z e').elim
theorem IsGoal.lift {es : List (List KO × D)} {c : Int → Option Int} {p s g : Int} {k : Nat} {o : Option Int} (h : IsGoal es c (p + (k : Int)) (stI es c p k s) g o) (n : ∀ i, i < k → ¬ stI es c p i s = g) : IsGoal es c p s g o := by
  cases o with
  | none =>
    intro i
    rcases Nat.lt_or_ge i k with y | y
    · exact n i y
    · have := h (i - k)
      rw [← stI_add k, show k + (i - k) = i by omega] at this
      exact this
  | some Q =>
    obtain ⟨d', e1, e2, e3⟩ := h
    refine ⟨k + d', by omega, by rw [stI_add]; exact e2, fun i hi => ?_⟩
    rcases Nat.lt_or_ge i k with y | y
    · exact n i y
    · have := e3 (i - k) (by omega)
      rw [← stI_add k, show k + (i - k) = i by omega] at this
      exact this
section
variable {Z : Zs}
theorem F_is_place_v {x : D} (hk : known x = true) : F_is_place Z [x] = .ok (.d (.bl (isPl x))) := by
  cases h1 : isTy x "int" <;> cases h2 : isTy x "bool" <;> simp [F_is_place_eq, b_is_place, hk, isPl, h1, h2]

end
section
variable {Z : Zs}
theorem F_is_value_v {x : D} (hk : known x = true) : F_is_value Z [x] = .ok (.d (.bl (isE x))) := by
  cases h : isNon x <;> simp [F_is_value_eq, b_is_value, hk, F_is_place_v hk, isE, h]

end
section
variable {Z : Zs}
theorem F_are_values_v {x : D} {f : Int} (hk : known x = true) (hka : knownAll x = true) : F_are_values Z [x, .int f] = .ok (.d (.bl (areV x f))) := by
  by_cases ht : (isTy x "tuple" || isTy x "list") = true
  · have main : ∀ ys : List D, ys.all known = true → x = .tup ys ∨ x = .lst ys → F_are_values Z [x, .int f] = .ok (.d (.bl (areV x f))) := fun ys hall hx => by
      rw [areV_known ys hx]
      have hlc : ys.length ≤ 16777216 → lcF (lcS (SG.name 2) (ST.yes : ST (HY Z)) (.call (F_is_value Z) (.cons (.var 2) .nil)) [.d x, .d (.int f), .un]) ys = .ok (ys.map fun y => .bl (isE y)) := fun _ => lcF_D fun y hy => by
        simp [lcS, F_is_value_v (known_get hall hy)]
      have hc : (ys.length : Int) ≤ 4000 ↔ ys.length ≤ 4000 := by omega
      by_cases h1 : f ≤ ys.length ∧ ys.length ≤ 4000
      · have h5 := hlc (by omega)
        have h6 : hide [.d x, .d (.int f), .un] [2] = [.d x, .d (.int f), .un] := rfl
        rcases hx with rfl | rfl <;> simp [F_are_values_eq, b_are_values, hk, ht, h1.1, h1.2, hc, h6, h5, allF_map, (show ys.length ≤ 16777216 by omega)]
      · have h2 : (decide (f ≤ ys.length) && decide (ys.length ≤ 4000)) = false := by simpa [Decidable.not_and_iff_or_not] using h1
        rcases hx with rfl | rfl <;> simp [F_are_values_eq, b_are_values, hk, ht, hc, h2]
    cases x with
    | tup ys => exact main ys hka (.inl rfl)
    | lst ys => exact main ys hka (.inr rfl)
    | _ => first | (simp [known] at hk; done) | (simp [isTy_non_tuple, isTy_bl_tuple, isTy_int_tuple, isTy_str_tuple, isTy_non_list, isTy_bl_list, isTy_int_list, isTy_str_list, isTy_dK_tuple, isTy_dK_list, isTy_dP_tuple, isTy_dP_list, isTy_dO_tuple, isTy_dO_list, isTy_dT_tuple, isTy_dT_list, isTy_dU_tuple, isTy_dU_list] at ht)
  · have ht : (isTy x "tuple" || isTy x "list") = false := by simpa using ht
    have e : areV x f = false := by
      cases x <;> first | rfl | (simp [isTy_tup_tuple, isTy_lst_list] at ht)
    simp [F_are_values_eq, b_are_values, hk, ht, e]

end
section
variable {Z : Zs}
theorem F_need_place_v {x : D} (hk : known x = true) (h : isPl x = true) : F_need_place Z [x] = .ok (.d .non) := by
  simp [F_need_place_eq, b_need_place, F_is_place_v hk, -isPl, h]
theorem F_need_place_i {i : Int} : F_need_place Z [.int i] = .ok (.d .non) := F_need_place_v rfl (by simp [isPl, isTy_int_int, isTy_int_bool])

end
section
variable {Z : Zs}
theorem vs_two {x : D} {r : List (Option Int)} {f : Int} (hl : r.length ≤ 4000) (hf : f ≤ r.length) (hx : x = .tup (vsD r) ∨ x = .lst (vsD r)) : F_are_values Z [x, .int f] = .ok (.d (.bl true)) := by
  have h2 : known x = true ∧ knownAll x = true := by rcases hx with rfl | rfl <;> exact ⟨rfl, all_known r⟩
  have h3 := F_are_values_v (Z := Z) (f := f) h2.1 h2.2
  have e : areV x f = true := by
    rw [areV_known (vsD r) hx, all_isE, len_vsD]; simp; omega
  rw [h3, e]
theorem F_Row_init_v {x : RowV} {a b c : D} (h : RowOk x) (hm : x.m.length ≤ 4000) (ha : a = .tup (vsD x.l) ∨ a = .lst (vsD x.l)) (hb : b = .tup (vsD x.m) ∨ b = .lst (vsD x.m)) (hc : c = .tup (vsD x.r) ∨ c = .lst (vsD x.r)) :
    mkR (F_Row_init Z) [a, b, .int x.f, c] = .ok [("left", .tup (vsD x.l)), ("middle", .tup (vsD x.m)), ("first", .int x.f), ("right", .tup (vsD x.r))] := mkR_eq fun q => by
  have p1 := pos_len h.l0
  have p2 := pos_len h.r0
  have h1 := vs_two (Z := Z) (f := 1) h.l1 (by omega) ha
  have h2 := vs_two (Z := Z) (f := 0) hm (by omega) hb
  have h3 := vs_two (Z := Z) (f := 1) h.r1 (by omega) hc
  have h4 := F_is_place_v (Z := Z) (x := .int x.f) rfl
  simp [isPl] at h4
  rcases ha with rfl | rfl <;> rcases hb with rfl | rfl <;> rcases hc with rfl | rfl <;> simp [F_Row_init_eq, b_Row_init, h1, h2, h3, h4, fc_left, fc_middle, fc_first, fc_right, putD]
end
section
variable {Z : Zs}
theorem F_Row_told_v {x : RowV} : F_Row_told Z [rowD Z x] = .ok (.d (toldD x)) := by
  simp [F_Row_told_eq, b_Row_told, fc_left, fc_middle, fc_first, fc_right, List.lookup]

end
section
variable {Z : Zs}
theorem F_is_between_v {i a b : Int} : F_is_between Z [.int i, .int a, .int b] = .ok (.d (.bl (decide (a ≤ i) && decide (i ≤ b)))) := by
  have p := F_is_place_v (Z := Z) (x := .int i) rfl
  rw [show isPl (.int i) = true by simp [isPl, isTy_int_int, isTy_int_bool]] at p
  by_cases h : a ≤ i
  · by_cases h2 : i ≤ b
    · simp (disch := walk_at "dd") [F_is_between_eq, b_is_between, p, h, h2]
    · simp (disch := walk_at "dd") [F_is_between_eq, b_is_between, p, h, h2]
  · simp (disch := walk_at "dd") [F_is_between_eq, b_is_between, p, h]

end
section
variable {Z : Zs}
theorem F_is_pair_v {s n : Int} {v : Option Int} (h : 0 ≤ s ∧ s < n) : F_is_pair Z [.tup [.int s, dE v], .int n] = .ok (.d (.bl true)) := by
  have p := F_is_between_v (Z := Z) (i := s) (a := 0) (b := n - 1)
  rw [decide_eq_true h.1, decide_eq_true (show s ≤ n - 1 by omega)] at p
  have q := F_is_value_v (Z := Z) (x := dE v) (known_dE v)
  rw [isE_dE] at q
  have t0 : L2.atI [D.int s, dE v] 0 = some (.int s) := (rfl)
  have t1 : L2.atI [D.int s, dE v] 1 = some (dE v) := (rfl)
  have kt : isTy (.tup [.int s, dE v]) "tuple" = true := isTy_tup_tuple
  simp (disch := walk_at "dd") [F_is_pair_eq, b_is_pair, p, q, t0, t1, kt]

end
section
variable {Z : Zs}
theorem F_is_table_v {es : List (List KO × D)} {n : Int} {T : D} (h : TabE es n) (hT : T = .dT es ∨ T = .dU es) : F_is_table Z [T, .int n] = .ok (.d (.bl true)) := by
  have hlc : lcF (lcS (SG.name 2) (ST.yes : ST (HY Z)) (.andE (.call (F_is_pair Z) (.cons (.var 2) (.cons (.var 1) .nil))) (.call (F_is_pair Z) (.cons (.op oIxT (.var 0) (.var 2)) (.cons (.var 1) .nil)))) [.d T, .d (.int n), .un]) (es.map fun p => D.tup (p.1.map dKO)) = .ok (es.map fun _ => .bl true) := lcF_all fun p hp => by
    obtain ⟨s, v, g, w, e, h1, h2, h3⟩ := h.at hp
    have p1 := F_is_pair_v (Z := Z) (v := v) h1
    have p2 := F_is_pair_v (Z := Z) (v := w) h2
    have k := keyT_sv s v
    rw [e]
    generalize hA : D.tup [.int s, dE v] = A at *
    generalize hB : D.tup [.int g, dE w] = B at *
    rcases hT with rfl | rfl <;> simp (disch := walk_at "dd") [lcS, p1, p2, k, h3]
  have hh : hide [.d T, .d (.int n), .un] [2] = [.d T, .d (.int n), .un] := rfl
  have al := allF_map (fun _ : List KO × D => true) es
  rw [show es.all (fun _ => true) = true by rw [List.all_eq_true]; intros; rfl] at al
  have ld := h.len
  have hd := isi_dict (T := TB Z) hT
  rcases hT with rfl | rfl <;> simp (disch := walk_at "dd") [F_is_table_eq, b_is_table, hd, hh, hlc, al, (show es.length ≤ 16777216 by omega)]

end
section
variable {Z : Zs}
theorem F_Walker_init_v {es : List (List KO × D)} {n : Int} {T : D} (h : TabE es n) (hn : 1 ≤ n ∧ n ≤ 30) (hT : T = .dT es ∨ T = .dU es) : mkR (F_Walker_init Z) [.int n, T] = .ok [("states", .int n), ("table", .dT es)] := mkR_eq fun q => by
  have p := F_is_between_v (Z := Z) (i := n) (a := 1) (b := 30)
  rw [decide_eq_true hn.1, decide_eq_true hn.2] at p
  have t := F_is_table_v (Z := Z) h hT
  have hc := h.hash
  rcases hT with rfl | rfl <;> simp (disch := walk_at "dd") [F_Walker_init_eq, b_Walker_init, p, t, hc, fc_states, fc_table, putD]

end
section
variable {Z : Zs}
theorem F_Walker_step_v {es : List (List KO × D)} {n s : Int} {v : Option Int} (h : TabE es n) : F_Walker_step Z [wkD Z n es, .int s, dE v] = .ok (.d (.tup [.int (nxE es s v), outE es s v])) := by
  have g := h.getD s v
  have k := keyT_sv s v
  simp (disch := walk_at "dd") [-keyT_2, F_Walker_step_eq, b_Walker_step, List.lookup, fc_table, k, g]

end
section
variable {Z : Zs}
theorem F_need_state_v {es : List (List KO × D)} {s n : Int} (h : 0 ≤ s ∧ s < n) : F_need_state Z [wkD Z n es, .int s] = .ok (.d .non) := by
  have p := F_is_between_v (Z := Z) (i := s) (a := 0) (b := n - 1)
  rw [decide_eq_true h.1, decide_eq_true (show s ≤ n - 1 by omega)] at p
  simp (disch := walk_at "dd") [F_need_state_eq, b_need_state, fc_states, List.lookup, p]

end
section
variable {Z : Zs}
theorem F_stretches_n {x : RowV} {p : Int} (h : RowOk x) (hm : x.m.length ≤ 4000) : ∃ (qs : List Part) (e b : Int), Along (cellR x) p qs e ∧ (∀ i : Nat, tell x.r (b + (i : Int)) = cellR x (e + (i : Int))) ∧ F_stretches Z [rowD Z x, .int p, .non] = .ok (.d (.lst (qs.map partD ++ [.tup [.tup (vsD x.r), .int b, .non]]))) := by
  obtain ⟨l, m, f, r⟩ := x
  have l0 : l ≠ [] := h.l0
  have l1 : l.length ≤ 4000 := h.l1
  have r0 : r ≠ [] := h.r0
  have r1 : r.length ≤ 4000 := h.r1
  have hm : m.length ≤ 4000 := hm
  have lp := pos_len l0
  have rp := pos_len r0
  have cL : ∀ q, q < f → cellR ⟨l, m, f, r⟩ q = tell l (q - f) := fun q hq => by
    unfold cellR; exact if_pos (by show q - f < 0; omega)
  have cM : ∀ q, f ≤ q → q < f + (m.length : Int) → cellR ⟨l, m, f, r⟩ q = m.getD (q - f).toNat none := fun q h1 h2 => by
    unfold cellR
    rw [if_neg (show ¬ q - f < 0 by omega), if_pos (show q - f < (m.length : Int) by omega)]
  have cR : ∀ q, f + (m.length : Int) ≤ q → cellR ⟨l, m, f, r⟩ q = tell r (q - f - (m.length : Int)) := fun q h1 => by
    unfold cellR
    rw [if_neg (show ¬ q - f < 0 by omega), if_neg (show ¬ q - f < (m.length : Int) by omega)]
  have tmod : ∀ (v : List (Option Int)) (a i : Int), tell v (a % (v.length : Int) + i) = tell v (a + i) := fun v a i => by
    unfold tell; rw [Int.emod_add_emod]
  generalize hM : (m.length : Int) = M at *
  have M0 : 0 ≤ M := by omega
  generalize hc : cellR ⟨l, m, f, r⟩ = c at *
  let p1 := if p < f then f else p
  let q1 : List Part := if p < f then [⟨l, (p - f) % (l.length : Int), (f - p).toNat⟩] else []
  let p2 := if p1 < f + M then f + M else p1
  let q2 : List Part := if p1 < f + M then [⟨m, (p1 - f) % M, (f + M - p1).toNat⟩] else []
  have hp1 : p1 = if p < f then f else p := rfl
  have hq1 : q1 = if p < f then [⟨l, (p - f) % (l.length : Int), (f - p).toNat⟩] else [] := rfl
  have hp2 : p2 = if p1 < f + M then f + M else p1 := rfl
  have hq2 : q2 = if p1 < f + M then [⟨m, (p1 - f) % M, (f + M - p1).toNat⟩] else [] := rfl
  clear_value p1 q1 p2 q2
  have a1 : Along c p q1 p1 ∧ f ≤ p1 := by
    by_cases z : p < f
    · rw [if_pos z] at hp1 hq1
      subst hp1 hq1
      refine ⟨?_, Int.le_refl _⟩
      have e0 : p + (((p1 - p).toNat : Nat) : Int) = p1 := by omega
      refine .cons l0 l1 (fun i hi => ?_) (by show Along c (p + (((p1 - p).toNat : Nat) : Int)) [] _; rw [e0]; exact .nil)
      have hi : i < (p1 - p).toNat := hi
      show tell l ((p - p1) % (l.length : Int) + (i : Int)) = _
      rw [tmod, cL _ (by omega)]; congr 1; omega
    · rw [if_neg z] at hp1 hq1
      subst hp1 hq1
      exact ⟨.nil, by omega⟩
  obtain ⟨a1, a2⟩ := a1
  have b1 : Along c p1 q2 p2 ∧ f + M ≤ p2 := by
    by_cases z : p1 < f + M
    · rw [if_pos z] at hp2 hq2
      subst hp2 hq2
      refine ⟨?_, Int.le_refl _⟩
      have e0 : p1 + (((f + M - p1).toNat : Nat) : Int) = f + M := by omega
      have m0 : m ≠ [] := fun z2 => by rw [z2] at hM; simp at hM; omega
      refine .cons m0 hm (fun i hi => ?_) (by show Along c (p1 + (((f + M - p1).toNat : Nat) : Int)) [] _; rw [e0]; exact .nil)
      have hi : i < (f + M - p1).toNat := hi
      show tell m ((p1 - f) % M + (i : Int)) = _
      rw [← hM, tmod, cM _ (by omega) (by omega)]
      unfold tell
      rw [hM, Int.emod_eq_of_lt (by omega) (by omega), show p1 - f + (i : Int) = p1 + (i : Int) - f by omega]
    · rw [if_neg z] at hp2 hq2
      subst hp2 hq2
      exact ⟨.nil, by omega⟩
  obtain ⟨b1, b2⟩ := b1
  refine ⟨q1 ++ q2, p2, (p2 - (f + M)) % (r.length : Int), a1.app b1, fun i => ?_, ?_⟩
  · show tell r ((p2 - (f + M)) % (r.length : Int) + (i : Int)) = _
    rw [tmod, cR _ (by omega)]; congr 1; omega
  have st1 : ∀ (R E : D) (v : List (Option Int)) (bg en P : Int) (X : List D), X.length ≤ 10 → (P < en → v ≠ []) → (b_stretches_l1 Z).f [.d R, .d (.int P), .d .non, .own X, .d (.int (f + M)), .d E, .d (.tup (vsD v)), .d (.int bg), .d (.int en), .un]
      = .nx [.d R, .d (.int (if P < en then en else P)), .d .non, .own (X ++ if P < en then [.tup [.tup (vsD v), .int ((P - bg) % (v.length : Int)), .int (en - P)]] else []), .d (.int (f + M)), .d E, .d (.tup (vsD v)), .d (.int bg), .d (.int en), .d (.int en)] := fun R E v bg en P X hX hv => by
    by_cases z : P < en
    · have v0 := pos_len (hv z)
      have v1 : (0 : Int) < (v.length : Int) := by omega
      rw [if_pos z, if_pos z]
      simp (disch := walk_at "dd") [b_stretches_l1, z, v1, (show X.length < 16777216 by omega)]
    · rw [if_neg z, if_neg z]
      simp (disch := walk_at "dd") [b_stretches_l1, z]
  have x1 : q1.map partD = if p < f then [D.tup [.tup (vsD l), .int ((p - f) % (l.length : Int)), .int (f - p)]] else [] := by
    by_cases z : p < f
    · rw [if_pos z] at hq1 ⊢
      rw [hq1]
      show [D.tup [.tup (vsD l), .int ((p - f) % (l.length : Int)), .int (((f - p).toNat : Nat) : Int)]] = _
      rw [show (((f - p).toNat : Nat) : Int) = f - p by omega]
    · rw [if_neg z] at hq1 ⊢
      rw [hq1]; rfl
  have x2 : q2.map partD = if p1 < f + M then [D.tup [.tup (vsD m), .int ((p1 - f) % (m.length : Int)), .int (f + M - p1)]] else [] := by
    by_cases z : p1 < f + M
    · rw [if_pos z] at hq2 ⊢
      rw [hq2]
      show [D.tup [.tup (vsD m), .int ((p1 - f) % M), .int (((f + M - p1).toNat : Nat) : Int)]] = _
      rw [show (((f + M - p1).toNat : Nat) : Int) = f + M - p1 by omega, hM]
    · rw [if_neg z] at hq2 ⊢
      rw [hq2]; rfl
  have l1' : (q1.map partD).length ≤ 1 := by rw [x1]; split <;> simp
  have l2' : (q2.map partD).length ≤ 1 := by rw [x2]; split <;> simp
  have s1 : forF (SG.seq 3 (.cons 6 (.cons 7 (.cons 8 .nil))) : SG (HY Z)).f (b_stretches_l1 Z).f [6, 7, 8, 9] [.tup [.tup (vsD l), .int f, .int f], .tup [.tup (vsD m), .int f, .int (f + M)]] [.d (rowD Z ⟨l, m, f, r⟩), .d (.int p), .d .non, .own [], .d (.int (f + M)), .d (.lst [.tup [.tup (vsD l), .int f, .int f], .tup [.tup (vsD m), .int f, .int (f + M)]]), .un, .un, .un, .un]
      = .nx [.d (rowD Z ⟨l, m, f, r⟩), .d (.int p2), .d .non, .own (q1.map partD ++ q2.map partD), .d (.int (f + M)), .d (.lst [.tup [.tup (vsD l), .int f, .int f], .tup [.tup (vsD m), .int f, .int (f + M)]]), .un, .un, .un, .un] := by
    have u1 := st1 (rowD Z ⟨l, m, f, r⟩) (.lst [.tup [.tup (vsD l), .int f, .int f], .tup [.tup (vsD m), .int f, .int (f + M)]]) l f f p [] (by simp) (fun _ => l0)
    have u2 := st1 (rowD Z ⟨l, m, f, r⟩) (.lst [.tup [.tup (vsD l), .int f, .int f], .tup [.tup (vsD m), .int f, .int (f + M)]]) m f (f + M) p1 (q1.map partD) (by omega) (fun z z2 => by rw [z2] at hM; simp at hM; omega)
    rw [← x1, ← hp1, List.nil_append] at u1
    rw [← x2, ← hp2] at u2
    generalize rowD Z ⟨l, m, f, r⟩ = R at *
    generalize D.lst [.tup [.tup (vsD l), .int f, .int f], .tup [.tup (vsD m), .int f, .int (f + M)]] = E at *
    rw [forF_nx (δ1 := [.d R, .d (.int p), .d .non, .own [], .d (.int (f + M)), .d E, .d (.tup (vsD l)), .d (.int f), .d (.int f), .un]) (by simp) u1]
    rw [forF_nx (δ1 := [.d R, .d (.int p1), .d .non, .own (q1.map partD), .d (.int (f + M)), .d E, .d (.tup (vsD m)), .d (.int f), .d (.int (f + M)), .un]) (by simp) u2]
    simp [forF_nil]
  have rl : (0 : Int) < (r.length : Int) := by omega
  rw [List.map_append]
  generalize hX : q1.map partD ++ q2.map partD = X at *
  have hXl : X.length ≤ 2 := by rw [← hX, List.length_append]; omega
  simp only [rowD] at s1 ⊢
  simp (disch := walk_at "dd") [F_stretches_eq, b_stretches, List.lookup, fc_first, fc_middle, fc_left, fc_right, hM, s1, rl, (show X.length < 16777216 by omega)]

end
section
variable {Z : Zs}
theorem F_Going_init_v {W : D} {s : Int} {g : Option Int} : F_Going_init Z [] [W, .int s, dE g] = .ok (.d .non) (goF W s g 0) := mR_eq fun a => by
  rw [Fm_Going_init_eq]
  simp (disch := walk_at "dd") [b_Going_init, putD, fc_walker, fc_state, fc_goal, fc_done, List.lookup]

end
section
variable {Z : Zs}
theorem F_Going_is_there_v {W : D} {s d : Int} {g : Option Int} : F_Going_is_there Z [.ins Z.Going (goF W s g d)] = .ok (.d (.bl (decide (g = some s)))) := by
  cases g with
  | none => simp (disch := walk_at "dd") [F_Going_is_there_eq, b_Going_is_there, List.lookup, dE, fc_state, fc_goal]
  | some i =>
    have e : decide (some i = some s) = decide (s = i) := by
      rw [decide_eq_decide]; constructor
      · intro h; cases h; rfl
      · intro h; rw [h]
    rw [e]
    simp (disch := walk_at "dd") [F_Going_is_there_eq, b_Going_is_there, List.lookup, dE, fc_state, fc_goal]

end
section
variable {Z : Zs}
theorem F_Going_pass_cell_v {es : List (List KO × D)} {n s d : Int} {v g : Option Int} (h : TabE es n) : F_Going_pass_cell Z (goF (wkD Z n es) s g d) [dE v] = .ok (.d .non) (goF (wkD Z n es) (nxE es s v) g (d + 1)) := mR_eq fun a => by
  have st := F_Walker_step_v (Z := Z) (s := s) (v := v) h
  have oW : ofC Z.Walker "step" (wkD Z n es) = true := by simp [List.lookup]
  generalize wkD Z n es = W at *
  generalize nxE es s v = s' at *
  generalize outE es s v = w at *
  have t0 : L2.atI [D.int s', w] 0 = some (.int s') := (rfl)
  rw [Fm_Going_pass_cell_eq]
  simp (disch := walk_at "dd") [b_Going_pass_cell, putD, fc_walker, fc_state, fc_goal, fc_done, List.lookup, st, oW, t0, lendSO, okl]

end
section
variable {Z : Zs}
theorem F_Going_go_e {es : List (List KO × D)} {n : Nat} {s b d0 : Int} {g : Option Int} {vs : List (Option Int)} {m : Nat} (h : TabE es (n : Int)) (hn : n ≤ 1000) (hs : 0 ≤ s ∧ s < (n : Int)) (hv : vs ≠ []) (hl : vs.length ≤ 4000) : ∃ d : Nat, d ≤ m ∧ (∀ i, i < d → ¬ g = some (stI es (tell vs) b i s)) ∧ (d = m ∨ g = some (stI es (tell vs) b d s)) ∧
    F_Going_go Z (goF (wkD Z n es) s g d0) [.tup [.tup (vsD vs), .int b, .int (m : Int)]] = .ok (.d .non) (goF (wkD Z n es) (stI es (tell vs) b d s) g (d : Int)) := by
  obtain ⟨d, q1, q2, q3⟩ := first_ex (fun i => g = some (stI es (tell vs) b i s)) m
  refine ⟨d, q1, q2, q3, mR_eq fun a => ?_⟩
  have L0 : 0 < vs.length := by cases vs with | nil => exact (hv rfl).elim | cons _ _ => simp
  generalize hL : vs.length = L at *
  generalize hst : (fun i => stI es (tell vs) b i s) = st at *
  have stE : ∀ i, stI es (tell vs) b i s = st i := fun i => by rw [← hst]
  have st0 : st 0 = s := by rw [← hst]; rfl
  have stS : ∀ i, st (i + 1) = nxE es (st i) (tell vs (b + (i : Int))) := fun i => by rw [← hst]; rfl
  have rg : ∀ i, 0 ≤ st i ∧ st i < (n : Int) := fun i => by rw [← hst]; exact stI_rg h hs i
  simp only [stE] at q2 q3 ⊢
  have pc : ∀ (e : Int) (v : Option Int) (t : Int), F_Going_pass_cell Z (goF (wkD Z n es) t g e) [dE v] = .ok (.d .non) (goF (wkD Z n es) (nxE es t v) g (e + 1)) := fun e v t => F_Going_pass_cell_v h
  have it : ∀ (e t : Int), F_Going_is_there Z [.ins Z.Going (goF (wkD Z n es) t g e)] = .ok (.d (.bl (decide (g = some t)))) := fun e t => F_Going_is_there_v
  have oI : ∀ (e t : Int), ofC Z.Going "is_there" (.ins Z.Going (goF (wkD Z n es) t g e)) = true := fun e t => by simp [List.lookup]
  generalize wkD Z n es = W at *
  have lv : ((vsD vs).length : Int) = (L : Int) := by rw [len_vsD, hL]
  have hw := whF_ex (c := (ST.lendO [Z.Going] false (.and (.not (.tru (.meth Z.Going "is_there" (F_Going_is_there Z) (.var 0) .nil))) (.or (.of (.op oIsN (.var 4) .non)) (.of (.op oLt (.fld "done" (fc_done Z) (fo_done Z) (.var 0)) (.var 4))))) : ST (HY Z)).f) (body := (b_Going_go_l1 Z).f) (vs := [6])
    (fun q : Nat × Nat × Nat => [.ob (some a) Z.Going (goF W (st q.1) g (q.1 : Int)), .d (.tup [.tup (vsD vs), .int b, .int (m : Int)]), .d (.tup (vsD vs)), .d (.int b), .d (.int (m : Int)), .okd (seenL st L q.2.1 q.2.2), .un])
    (GoP st g L m) (fun q => m - q.1)
    (fun r => ∃ e l, (e ≤ m ∧ (∀ i, i < e → ¬ g = some (st i)) ∧ (e = m ∨ g = some (st e))) ∧ (r = .nx (.ob (some a) Z.Going (goF W (st e) g (e : Int)) :: l) ∨ r = .rto (.d .non) (.ob (some a) Z.Going (goF W (st e) g (e : Int)) :: l)))
    (fun q hq => by
      obtain ⟨e, b0, k⟩ := q
      dsimp only at hq ⊢
      have em : e ≤ m := hq.dm
      have is := it (e : Int) (st e)
      have oi := oI (e : Int) (st e)
      by_cases g1 : g = some (st e)
      · left
        refine ⟨?_, e, _, ⟨em, hq.ng, .inr g1⟩, .inl rfl⟩
        rw [decide_eq_true g1] at is
        simp (disch := walk_at "dd") [lendSO, okl, oi, is]
      · rw [decide_eq_false g1] at is
        rcases Nat.lt_or_ge e m with lt | ge
        · right
          refine ⟨by simp (disch := walk_at "dd") [lendSO, okl, oi, is, fc_done, List.lookup, lt], ?_⟩
          have tm : L2.atI (vsD vs) ((b + (e : Int)) % (L : Int)) = some (dE (tell vs (b + (e : Int)))) := by rw [← hL]; exact tell_mod hv _
          have p1 := pc (e : Int) (tell vs (b + (e : Int))) (st e)
          rw [← stS] at p1
          have op : ∀ (x t : Int), ofC Z.Going "pass_cell" (.ins Z.Going (goF W t g x)) = true := fun x t => by simp [List.lookup]
          have L1 : (0 : Int) < (L : Int) := by omega
          by_cases hd : e % L = 0
          · have hd1 : (e : Int) % (L : Int) = 0 := by omega
            cases hx : valD (seenL st L b0 k) (.inl (st e)) with
            | none =>
              have pt := seenL_put (hq.at L0 hd) hx
              have kl := keys_le hq.nd rg
              have sl : (seenL st L b0 k).length < 16777216 := by rw [seenL_len]; have : k ≤ n := kl; omega
              left
              refine ⟨(e + 1, b0, k + 1), hq.stepP L0 lt g1 hd (seenL_none hx), by dsimp only; omega, [.ob (some a) Z.Going (goF W (st (e + 1)) g ((e : Int) + 1)), .d (.tup [.tup (vsD vs), .int b, .int (m : Int)]), .d (.tup (vsD vs)), .d (.int b), .d (.int (m : Int)), .okd (seenL st L b0 (k + 1)), .un], .inl ?_, by simp⟩
              generalize seenL st L b0 (k + 1) = S2 at *
              generalize seenL st L b0 k = S1 at *
              generalize tell vs (b + (e : Int)) = tv at *
              simp (disch := walk_at "dd") [b_Going_go_l1, putD, fc_walker, fc_state, fc_goal, fc_done, List.lookup, hL, hd1, hx, pt, sl, tm, p1, op, lendSO, okl, methXF, rfo_dE]
            | some x =>
              have kl : k ≤ n := keys_le hq.nd rg
              have ek := hq.at L0 hd
              obtain ⟨i, hi, ej, rfl⟩ := seenL_val hx
              have hje := hq.kd i hi
              dsimp only at hje
              have hjt : b0 + i * L + (k - i - 1 + 1) * L = e := by
                rw [ek, show k - i - 1 + 1 = k - i by omega, Nat.sub_mul]
                have := Nat.mul_le_mul_right L (show i ≤ k by omega)
                omega
              have hj0 : (b0 + i * L) % L = 0 := by rw [Nat.add_mul_mod_self_right]; exact hq.b0
              have hbig : e - (b0 + i * L) ≤ 4000000 := by
                have h1 : (k - i) * L ≤ 1000 * 4000 := Nat.mul_le_mul (by omega) hl
                rw [show k - i - 1 + 1 = k - i by omega] at hjt
                omega
              generalize hj : b0 + i * L = j at *
              obtain ⟨s1, s2, s3, u, s4⟩ := skip_all (es := es) (vs := vs) (b := b) (s := s) (g := g) (m := m) (e := e) (j := j) (t := k - i - 1) (by rw [hL]; exact L0) (by rw [hL]; exact hjt) lt (by rw [stE, stE]; exact ej) (fun i hi => by rw [stE]; exact hq.ng i hi)
              rw [hL] at s4
              simp only [stE] at s2 s3
              have er : (e : Int) - (j : Int) = ((e - j : Nat) : Int) := by omega
              have dI : (e : Int) + ((m : Int) - (e : Int)) / ((e - j : Nat) : Int) * ((e - j : Nat) : Int) = ((e + (m - e) / (e - j) * (e - j) : Nat) : Int) := by
                have : ((m : Int) - (e : Int)) = ((m - e : Nat) : Int) := by omega
                rw [this]; norm_cast
              have hD0 : (e + (m - e) / (e - j) * (e - j)) % L = 0 := by rw [s4, Nat.add_mul_mod_self_right]; exact hd
              have hDe : e ≤ e + (m - e) / (e - j) * (e - j) := Nat.le_add_right _ _
              generalize hDD : e + (m - e) / (e - j) * (e - j) = DD at *
              have r0 : (0 : Int) < ((e - j : Nat) : Int) := by omega
              have r1 : ((e - j : Nat) : Int) < 1073741824 := by omega
              generalize ((e - j : Nat) : Int) = r at *
              have hx2 : valD (seenL st L b0 k) (.inl (st e)) = some (.int (j : Int)) := hx
              by_cases qm : DD = m
              · right
                subst qm
                refine ⟨.d .non, [.ob (some a) Z.Going (goF W (st e) g (DD : Int)), .d (.tup [.tup (vsD vs), .int b, .int (DD : Int)]), .d (.tup (vsD vs)), .d (.int b), .d (.int (DD : Int)), .okd [], .d (.int r)], ?_, DD, [.d (.tup [.tup (vsD vs), .int b, .int (DD : Int)]), .d (.tup (vsD vs)), .d (.int b), .d (.int (DD : Int)), .okd [], .d (.int r)], ⟨Nat.le_refl _, s3, .inl rfl⟩, .inr ?_⟩
                · generalize seenL st L b0 k = S1 at *
                  simp (disch := walk_at "dd") [b_Going_go_l1, putD, fc_walker, fc_state, fc_goal, fc_done, List.lookup, hL, hd1, hx2, er, dI, lendSO, okl]
                · rw [s2]
              · left
                have hD1 : (DD : Int) % (L : Int) = 0 := by omega
                have qm1 : ¬ (DD : Int) = (m : Int) := by omega
                have tm2 : L2.atI (vsD vs) ((b + (DD : Int)) % (L : Int)) = some (dE (tell vs (b + (DD : Int)))) := by rw [← hL]; exact tell_mod hv _
                have p2 := pc (DD : Int) (tell vs (b + (DD : Int))) (st e)
                rw [show nxE es (st e) (tell vs (b + (DD : Int))) = st (DD + 1) by rw [stS, s2]] at p2
                have ng2 : GoP st g L m (DD, DD, 0) := hq.skip L0 hd hD0 s1 hDe s3
                have pt : putKD [] (.inl (st e)) (.int (DD : Int)) = seenL st L DD 1 := by
                  unfold seenL putKD
                  simp [List.range_succ, s2]
                have gD : g ≠ some (st DD) := by rw [s2]; exact g1
                refine ⟨(DD + 1, DD, 1), ng2.stepP L0 (by omega) gD hD0 (by simp), by dsimp only; omega, [.ob (some a) Z.Going (goF W (st (DD + 1)) g ((DD : Int) + 1)), .d (.tup [.tup (vsD vs), .int b, .int (m : Int)]), .d (.tup (vsD vs)), .d (.int b), .d (.int (m : Int)), .okd (seenL st L DD 1), .d (.int r)], .inl ?_, by simp⟩
                generalize seenL st L DD 1 = S2 at *
                generalize seenL st L b0 k = S1 at *
                generalize tell vs (b + (DD : Int)) = tv at *
                simp (disch := walk_at "dd") [b_Going_go_l1, putD, fc_walker, fc_state, fc_goal, fc_done, List.lookup, hL, hd1, hD1, qm1, hx2, er, dI, pt, tm2, p2, op, lendSO, okl, methXF, rfo_dE]
          · have hd1 : ¬ (e : Int) % (L : Int) = 0 := by omega
            left
            refine ⟨(e + 1, b0, k), hq.step L0 lt g1 hd, by dsimp only; omega, [.ob (some a) Z.Going (goF W (st (e + 1)) g ((e : Int) + 1)), .d (.tup [.tup (vsD vs), .int b, .int (m : Int)]), .d (.tup (vsD vs)), .d (.int b), .d (.int (m : Int)), .okd (seenL st L b0 k), .un], .inl ?_, by simp⟩
            generalize seenL st L b0 k = S1 at *
            generalize tell vs (b + (e : Int)) = tv at *
            simp (disch := walk_at "dd") [b_Going_go_l1, putD, fc_walker, fc_state, fc_goal, fc_done, List.lookup, hL, hd1, tm, p1, op, lendSO, okl, methXF, rfo_dE]
        · left
          have eq : e = m := by omega
          subst eq
          refine ⟨?_, e, _, ⟨em, hq.ng, .inl rfl⟩, .inl rfl⟩
          simp (disch := walk_at "dd") [lendSO, okl, oi, is, fc_done, List.lookup])
  obtain ⟨r, ⟨e, l, ⟨k1, k2, k3⟩, hr⟩, hw⟩ := hw (0, 0, 0) ⟨Nat.zero_le _, fun i hi => (by cases hi), Nat.zero_mod _, Nat.le_refl _, by simp, fun i hi => (by cases hi), by simp⟩
  have ed := first_uniq (P := fun i => g = some (st i)) q1 q2 q3 k1 k2 k3
  subst ed
  rw [Fm_Going_go_eq]
  have hw2 : (SS.whileS (.lendO [Z.Going] false (.and (.not (.tru (.meth Z.Going "is_there" (F_Going_is_there Z) (.var 0) .nil))) (.or (.of (.op oIsN (.var 4) .non)) (.of (.op oLt (.fld "done" (fc_done Z) (fo_done Z) (.var 0)) (.var 4)))))) [6] (b_Going_go_l1 Z) : SS (HY Z)).f [.ob (some a) Z.Going (goF W s g 0), .d (.tup [.tup (vsD vs), .int b, .int (m : Int)]), .d (.tup (vsD vs)), .d (.int b), .d (.int (m : Int)), .okd [], .un] = r := by
    rw [← st0]; exact hw
  unfold b_Going_go
  generalize (SS.whileS (.lendO [Z.Going] false (.and (.not (.tru (.meth Z.Going "is_there" (F_Going_is_there Z) (.var 0) .nil))) (.or (.of (.op oIsN (.var 4) .non)) (.of (.op oLt (.fld "done" (fc_done Z) (fo_done Z) (.var 0)) (.var 4)))))) [6] (b_Going_go_l1 Z) : SS (HY Z)) = WH at hw2 ⊢
  rcases hr with rfl | rfl <;> simp (disch := walk_at "dd") [putD, fc_walker, fc_state, fc_goal, fc_done, List.lookup, hw2]
theorem F_Going_go_n {es : List (List KO × D)} {n : Nat} {s b d0 : Int} {g : Option Int} {vs : List (Option Int)} (h : TabE es (n : Int)) (hn : n ≤ 1000) (hs : 0 ≤ s ∧ s < (n : Int)) (hv : vs ≠ []) (hl : vs.length ≤ 4000) : ∃ d : Nat, (∀ i, i < d → ¬ g = some (stI es (tell vs) b i s)) ∧ (g = some (stI es (tell vs) b d s) ∨ ∀ i, ¬ g = some (stI es (tell vs) b i s)) ∧
    F_Going_go Z (goF (wkD Z n es) s g d0) [.tup [.tup (vsD vs), .int b, .non]] = .ok (.d .non) (goF (wkD Z n es) (stI es (tell vs) b d s) g (d : Int)) := by
  have L0 : 0 < vs.length := by cases vs with | nil => exact (hv rfl).elim | cons _ _ => simp
  obtain ⟨i0, i1, i2⟩ := again_ex (st := fun i => stI es (tell vs) b i s) L0 (fun i => stI_rg h hs i)
  let P : Nat → Prop := fun i => g = some (stI es (tell vs) b i s) ∨ Again (fun i => stI es (tell vs) b i s) vs.length i
  have : DecidablePred P := fun _ => Classical.propDecidable _
  obtain ⟨d, q1, q2, q3⟩ := first_ex P (n * vs.length)
  have q4 : P d := by
    rcases q3 with q3 | q3
    · rcases Nat.lt_or_ge i0 d with z | z
      · exact (q2 i0 z (.inr i2)).elim
      · have : i0 = d := by omega
        subst this; exact .inr i2
    · exact q3
  refine ⟨d, fun i hi z => q2 i hi (.inl z), ?_, mR_eq fun a => ?_⟩
  · rcases q4 with q3 | q3
    · exact .inl q3
    · exact .inr (again_never L0 q3 fun j hj z => q2 j hj (.inl z))
  generalize hL : vs.length = L at *
  generalize hst : (fun i => stI es (tell vs) b i s) = st at *
  have stE : ∀ i, stI es (tell vs) b i s = st i := fun i => by rw [← hst]
  have st0 : st 0 = s := by rw [← hst]; rfl
  have stS : ∀ i, st (i + 1) = nxE es (st i) (tell vs (b + (i : Int))) := fun i => by rw [← hst]; rfl
  have rg : ∀ i, 0 ≤ st i ∧ st i < (n : Int) := fun i => by rw [← hst]; exact stI_rg h hs i
  have PE : ∀ i, P i ↔ (g = some (st i) ∨ Again st L i) := fun i => by show (g = some (stI es (tell vs) b i s) ∨ Again (fun i => stI es (tell vs) b i s) vs.length i) ↔ _; rw [stE, hst, hL]
  clear_value P
  clear q3
  rw [stE]
  have pc : ∀ (e : Int) (v : Option Int) (t : Int), F_Going_pass_cell Z (goF (wkD Z n es) t g e) [dE v] = .ok (.d .non) (goF (wkD Z n es) (nxE es t v) g (e + 1)) := fun e v t => F_Going_pass_cell_v h
  have it : ∀ (e t : Int), F_Going_is_there Z [.ins Z.Going (goF (wkD Z n es) t g e)] = .ok (.d (.bl (decide (g = some t)))) := fun e t => F_Going_is_there_v
  have oI : ∀ (e t : Int), ofC Z.Going "is_there" (.ins Z.Going (goF (wkD Z n es) t g e)) = true := fun e t => by simp [List.lookup]
  generalize wkD Z n es = W at *
  have hw := whF_ex (c := (ST.lendO [Z.Going] false (.and (.not (.tru (.meth Z.Going "is_there" (F_Going_is_there Z) (.var 0) .nil))) (.or (.of (.op oIsN (.var 4) .non)) (.of (.op oLt (.fld "done" (fc_done Z) (fo_done Z) (.var 0)) (.var 4))))) : ST (HY Z)).f) (body := (b_Going_go_l1 Z).f) (vs := [6])
    (fun q : Nat × Nat × Nat => [.ob (some a) Z.Going (goF W (st q.1) g (q.1 : Int)), .d (.tup [.tup (vsD vs), .int b, .non]), .d (.tup (vsD vs)), .d (.int b), .d .non, .okd (seenL st L q.2.1 q.2.2), .un])
    (fun q => GoP st g L (n * L + L) q ∧ q.2.1 = 0 ∧ ∀ i, i < q.1 → ¬ P i) (fun q => n * L + L - q.1)
    (fun r => ∃ e l, ((∀ i, i < e → ¬ P i) ∧ P e) ∧ (r = .nx (.ob (some a) Z.Going (goF W (st e) g (e : Int)) :: l) ∨ r = .rto (.d .non) (.ob (some a) Z.Going (goF W (st e) g (e : Int)) :: l)))
    (fun q hq => by
      obtain ⟨e, b0, k⟩ := q
      obtain ⟨hq, hb, hP⟩ := hq
      dsimp only at hq hb hP ⊢
      subst hb
      have is := it (e : Int) (st e)
      have oi := oI (e : Int) (st e)
      by_cases g1 : g = some (st e)
      · left
        refine ⟨?_, e, _, ⟨hP, (PE e).mpr (.inl g1)⟩, .inl rfl⟩
        rw [decide_eq_true g1] at is
        simp (disch := walk_at "dd") [lendSO, okl, oi, is]
      · rw [decide_eq_false g1] at is
        right
        refine ⟨by simp (disch := walk_at "dd") [lendSO, okl, oi, is, fc_done, List.lookup], ?_⟩
        have tm : L2.atI (vsD vs) ((b + (e : Int)) % (L : Int)) = some (dE (tell vs (b + (e : Int)))) := by rw [← hL]; exact tell_mod hv _
        have p1 := pc (e : Int) (tell vs (b + (e : Int))) (st e)
        rw [← stS] at p1
        have op : ∀ (x t : Int), ofC Z.Going "pass_cell" (.ins Z.Going (goF W t g x)) = true := fun x t => by simp [List.lookup]
        have L1 : (0 : Int) < (L : Int) := by omega
        have kl : k ≤ n := keys_le hq.nd rg
        have lt : e < n * L + L := by
          have h1 := hq.db
          dsimp only at h1
          have := Nat.mul_le_mul_right L kl
          omega
        by_cases hd : e % L = 0
        · have hd1 : (e : Int) % (L : Int) = 0 := by omega
          cases hx : valD (seenL st L 0 k) (.inl (st e)) with
          | none =>
            have pt := seenL_put (hq.at L0 hd) hx
            have sl : (seenL st L 0 k).length < 16777216 := by rw [seenL_len]; omega
            have hnP : ¬ P e := fun z => by
              rcases (PE e).mp z with z | ⟨_, j, j1, j2, j3⟩
              · exact g1 z
              · have ek := hq.at L0 hd
                obtain ⟨t, ht⟩ := mod_eq_of L0 (Nat.zero_mod L) j2 (Nat.zero_le _)
                refine seenL_none hx (List.mem_map.mpr ⟨t, List.mem_range.mpr ?_, by show st (0 + t * L) = st e; rw [← ht, j3]⟩)
                rcases Nat.lt_or_ge t k with z | z
                · exact z
                · have := Nat.mul_le_mul_right L z
                  omega
            left
            refine ⟨(e + 1, 0, k + 1), ⟨hq.stepP L0 lt g1 hd (seenL_none hx), rfl, fun i hi => ?_⟩, by dsimp only; omega, [.ob (some a) Z.Going (goF W (st (e + 1)) g ((e : Int) + 1)), .d (.tup [.tup (vsD vs), .int b, .non]), .d (.tup (vsD vs)), .d (.int b), .d .non, .okd (seenL st L 0 (k + 1)), .un], .inl ?_, by simp⟩
            · by_cases z : i = e
              · subst z; exact hnP
              · exact hP i (by have : i < e + 1 := hi; omega)
            · generalize seenL st L 0 (k + 1) = S2 at *
              generalize seenL st L 0 k = S1 at *
              generalize tell vs (b + (e : Int)) = tv at *
              simp (disch := walk_at "dd") [b_Going_go_l1, putD, fc_walker, fc_state, fc_goal, fc_done, List.lookup, hL, hd1, hx, pt, sl, tm, p1, op, lendSO, okl, methXF, rfo_dE]
          | some x =>
            right
            obtain ⟨i, hi, ej, rfl⟩ := seenL_val hx
            have hje := hq.kd i hi
            dsimp only at hje
            refine ⟨.d .non, [.ob (some a) Z.Going (goF W (st e) g (e : Int)), .d (.tup [.tup (vsD vs), .int b, .non]), .d (.tup (vsD vs)), .d (.int b), .d .non, .okd (seenL st L 0 k), .un], ?_, e, [.d (.tup [.tup (vsD vs), .int b, .non]), .d (.tup (vsD vs)), .d (.int b), .d .non, .okd (seenL st L 0 k), .un], ⟨hP, (PE e).mpr (.inr ⟨hd, 0 + i * L, hje, by rw [Nat.zero_add, Nat.mul_mod_left], ej⟩)⟩, .inr rfl⟩
            generalize 0 + i * L = j at *
            generalize seenL st L 0 k = S1 at *
            simp (disch := walk_at "dd") [b_Going_go_l1, putD, fc_walker, fc_state, fc_goal, fc_done, List.lookup, hL, hd1, hx, lendSO, okl]
        · have hd1 : ¬ (e : Int) % (L : Int) = 0 := by omega
          left
          refine ⟨(e + 1, 0, k), ⟨hq.step L0 lt g1 hd, rfl, fun i hi => ?_⟩, by dsimp only; omega, [.ob (some a) Z.Going (goF W (st (e + 1)) g ((e : Int) + 1)), .d (.tup [.tup (vsD vs), .int b, .non]), .d (.tup (vsD vs)), .d (.int b), .d .non, .okd (seenL st L 0 k), .un], .inl ?_, by simp⟩
          · by_cases z : i = e
            · subst z
              intro z
              rcases (PE i).mp z with z | z
              · exact g1 z
              · exact hd z.1
            · exact hP i (by have : i < e + 1 := hi; omega)
          · generalize seenL st L 0 k = S1 at *
            generalize tell vs (b + (e : Int)) = tv at *
            simp (disch := walk_at "dd") [b_Going_go_l1, putD, fc_walker, fc_state, fc_goal, fc_done, List.lookup, hL, hd1, tm, p1, op, lendSO, okl, methXF, rfo_dE])
  obtain ⟨r, ⟨e, l, ⟨k2, k3⟩, hr⟩, hw⟩ := hw (0, 0, 0) ⟨⟨Nat.zero_le _, fun i hi => (by cases hi), Nat.zero_mod _, Nat.le_refl _, by simp, fun i hi => (by cases hi), by simp⟩, rfl, fun i hi => by cases hi⟩
  have ed : d = e := by
    rcases Nat.lt_trichotomy d e with q | q | q
    · exact (k2 d q q4).elim
    · exact q
    · exact (q2 e q k3).elim
  subst ed
  rw [Fm_Going_go_eq]
  have hw2 : (SS.whileS (.lendO [Z.Going] false (.and (.not (.tru (.meth Z.Going "is_there" (F_Going_is_there Z) (.var 0) .nil))) (.or (.of (.op oIsN (.var 4) .non)) (.of (.op oLt (.fld "done" (fc_done Z) (fo_done Z) (.var 0)) (.var 4)))))) [6] (b_Going_go_l1 Z) : SS (HY Z)).f [.ob (some a) Z.Going (goF W s g 0), .d (.tup [.tup (vsD vs), .int b, .non]), .d (.tup (vsD vs)), .d (.int b), .d .non, .okd [], .un] = r := by
    rw [← st0]; exact hw
  unfold b_Going_go
  generalize (SS.whileS (.lendO [Z.Going] false (.and (.not (.tru (.meth Z.Going "is_there" (F_Going_is_there Z) (.var 0) .nil))) (.or (.of (.op oIsN (.var 4) .non)) (.of (.op oLt (.fld "done" (fc_done Z) (fo_done Z) (.var 0)) (.var 4)))))) [6] (b_Going_go_l1 Z) : SS (HY Z)) = WH at hw2 ⊢
  rcases hr with rfl | rfl <;> simp (disch := walk_at "dd") [putD, fc_walker, fc_state, fc_goal, fc_done, List.lookup, hw2]

end
section
variable {Z : Zs}
theorem F_comes_to_e {es : List (List KO × D)} {n : Nat} {x : RowV} {p s g : Int} (h : RowOk x) (hm : x.m.length ≤ 4000) (hT : TabE es (n : Int)) (hn : n ≤ 1000) (hs : 0 ≤ s ∧ s < (n : Int)) (hg : 0 ≤ g ∧ g < (n : Int)) : ∃ o, IsGoal es (cellR x) p s g o ∧ F_comes_to Z [wkD Z n es, rowD Z x, .int p, .int s, .int g] = .ok (.d (dE o)) := by
  have n1 := F_need_place_i (Z := Z) (i := p)
  have n3 := F_need_state_v (Z := Z) (es := es) hs
  have n4 := F_need_state_v (Z := Z) (es := es) hg
  obtain ⟨qs, e, b, al, fin, hq⟩ := F_stretches_n (Z := Z) (p := p) h hm
  have gi : F_Going_init Z [] [wkD Z n es, .int s, .int g] = .ok (.d .non) (goF (wkD Z n es) s (some g) 0) := F_Going_init_v (Z := Z) (W := wkD Z n es) (s := s) (g := some g)
  have it : ∀ (d t : Int), F_Going_is_there Z [.ins Z.Going (goF (wkD Z n es) t (some g) d)] = .ok (.d (.bl (decide (t = g)))) := fun d t => by
    rw [F_Going_is_there_v]
    congr 3
    rw [decide_eq_decide]; constructor
    · intro z; cases z; rfl
    · intro z; rw [z]
  have oI : ∀ (d t : Int), ofC Z.Going "is_there" (.ins Z.Going (goF (wkD Z n es) t (some g) d)) = true := fun d t => by simp [List.lookup]
  have og : ∀ (t d : Int), ofC Z.Going "go" (.ins Z.Going (goF (wkD Z n es) t (some g) d)) = true := fun t d => by simp [List.lookup]
  have go : ∀ (q : Part) (t d0 : Int), q.vs ≠ [] → q.vs.length ≤ 4000 → (0 ≤ t ∧ t < (n : Int)) → ∃ d : Nat, d ≤ q.m ∧ (∀ i, i < d → ¬ stI es (tell q.vs) q.b i t = g) ∧ (d = q.m ∨ stI es (tell q.vs) q.b d t = g) ∧ F_Going_go Z (goF (wkD Z n es) t (some g) d0) [partD q] = .ok (.d .non) (goF (wkD Z n es) (stI es (tell q.vs) q.b d t) (some g) (d : Int)) := fun q t d0 a1 a2 a3 => by
    obtain ⟨d, k1, k2, k3, k4⟩ := F_Going_go_e (Z := Z) (b := q.b) (d0 := d0) (g := some g) (m := q.m) hT hn a3 a1 a2
    refine ⟨d, k1, fun i hi z => k2 i hi (by rw [z]), ?_, k4⟩
    rcases k3 with k3 | k3
    · exact .inl k3
    · exact .inr (by cases k3; rfl)
  have goN : ∀ (t d0 : Int), (0 ≤ t ∧ t < (n : Int)) → ∃ d : Nat, (∀ i, i < d → ¬ stI es (cellR x) e i t = g) ∧ (stI es (cellR x) e d t = g ∨ ∀ i, ¬ stI es (cellR x) e i t = g) ∧ F_Going_go Z (goF (wkD Z n es) t (some g) d0) [.tup [.tup (vsD x.r), .int b, .non]] = .ok (.d .non) (goF (wkD Z n es) (stI es (cellR x) e d t) (some g) (d : Int)) := fun t d0 a3 => by
    obtain ⟨d, k2, k3, k4⟩ := F_Going_go_n (Z := Z) (b := b) (d0 := d0) (g := some g) hT hn a3 h.r0 h.r1
    have cg : ∀ i, stI es (tell x.r) b i t = stI es (cellR x) e i t := fun i => stI_congr fun j _ => fin j
    simp only [cg] at k2 k3 k4
    refine ⟨d, fun i hi z => k2 i hi (by rw [z]), ?_, k4⟩
    rcases k3 with k3 | k3
    · exact .inl (by cases k3; rfl)
    · exact .inr fun i z => k3 i (by rw [z])
  have step : ∀ t i, 0 ≤ t ∧ t < (n : Int) → ∀ c q, 0 ≤ stI es c q i t ∧ stI es c q i t < (n : Int) := fun t i ht c q => stI_rg hT ht i
  generalize hW : wkD Z n es = W at *
  generalize hR : rowD Z x = R at *
  generalize hc : cellR x = c at *
  -- one part
  have one : ∀ (P t d0 t2 : Int) (d : Nat) (Q : D), F_Going_go Z (goF W t (some g) d0) [Q] = .ok (.d .non) (goF W t2 (some g) (d : Int)) → (b_comes_to_l1 Z).f [.d W, .d R, .d (.int P), .d (.int s), .d (.int g), .ob none Z.Going (goF W t (some g) d0), .d Q] = if t2 = g then .rt (.d (.int (P + (d : Int)))) else .nx [.d W, .d R, .d (.int (P + (d : Int))), .d (.int s), .d (.int g), .ob none Z.Going (goF W t2 (some g) (d : Int)), .d Q] := fun P t d0 t2 d Q k => by
    have o1 := og t d0
    have o2 := oI (d : Int) t2
    have i2 := it (d : Int) t2
    by_cases z : t2 = g
    · rw [if_pos z]
      rw [decide_eq_true z] at i2
      simp (disch := walk_at "dd") [b_comes_to_l1, methXF, o1, k, o2, i2, lendSO, okl, fc_done, List.lookup]
    · rw [if_neg z]
      rw [decide_eq_false z] at i2
      simp (disch := walk_at "dd") [b_comes_to_l1, methXF, o1, k, o2, i2, lendSO, okl, fc_done, List.lookup]
  have hlp : ∀ (qs : List Part) (P t d0 : Int), Along c P qs e → (0 ≤ t ∧ t < (n : Int)) → ∃ o, IsGoal es c P t g o ∧ ((∃ q, o = some q ∧ forF (SG.name 6 : SG (HY Z)).f (b_comes_to_l1 Z).f [6] (qs.map partD ++ [.tup [.tup (vsD x.r), .int b, .non]]) [.d W, .d R, .d (.int P), .d (.int s), .d (.int g), .ob none Z.Going (goF W t (some g) d0), .un] = .rt (.d (.int q)))
      ∨ (o = none ∧ ∃ δ, forF (SG.name 6 : SG (HY Z)).f (b_comes_to_l1 Z).f [6] (qs.map partD ++ [.tup [.tup (vsD x.r), .int b, .non]]) [.d W, .d R, .d (.int P), .d (.int s), .d (.int g), .ob none Z.Going (goF W t (some g) d0), .un] = .nx δ)) := by
    intro qs
    induction qs with
    | nil =>
      intro P t d0 ha ht
      cases ha
      obtain ⟨d, k1, k2, k3⟩ := goN t d0 ht
      have k := one e t d0 _ d _ k3
      rw [List.map_nil, List.nil_append]
      by_cases z : stI es c e d t = g
      · rw [if_pos z] at k
        refine ⟨some (e + (d : Int)), ⟨d, rfl, z, k1⟩, .inl ⟨_, rfl, ?_⟩⟩
        exact forF_rt (by simp) k
      · rw [if_neg z] at k
        refine ⟨none, ?_, .inr ⟨rfl, ?_⟩⟩
        · rcases k2 with k2 | k2
          · exact (z k2).elim
          · exact k2
        · exact ⟨_, (forF_nx (δ1 := [.d W, .d R, .d (.int e), .d (.int s), .d (.int g), .ob none Z.Going (goF W t (some g) d0), .d (.tup [.tup (vsD x.r), .int b, .non])]) (by simp) k).trans forF_nil⟩
    | cons q qs ih =>
      intro P t d0 ha ht
      cases ha with
      | cons b1 b2 b3 b4 =>
        obtain ⟨d, k0, k1, k2, k3⟩ := go q t d0 b1 b2 ht
        have cg : ∀ i, i ≤ q.m → stI es (tell q.vs) q.b i t = stI es c P i t := fun i hi => stI_congr fun j hj => b3 j (by omega)
        rw [cg d k0] at k2 k3
        have k1 : ∀ i, i < d → ¬ stI es c P i t = g := fun i hi => by rw [← cg i (by omega)]; exact k1 i hi
        have k := one P t d0 _ d _ k3
        rw [List.map_cons, List.cons_append]
        by_cases z : stI es c P d t = g
        · rw [if_pos z] at k
          refine ⟨some (P + (d : Int)), ⟨d, rfl, z, k1⟩, .inl ⟨_, rfl, ?_⟩⟩
          exact forF_rt (by simp) k
        · rw [if_neg z] at k
          have dm : d = q.m := by
            rcases k2 with k2 | k2
            · exact k2
            · exact (z k2).elim
          subst dm
          obtain ⟨o, i1, i2⟩ := ih (P + (q.m : Int)) (stI es c P q.m t) (q.m : Int) b4 (step t _ ht _ _)
          have lift : IsGoal es c P t g o := by
            have nn : ∀ i, i < q.m + 1 → ¬ stI es c P i t = g := fun i hi => by
              by_cases y : i = q.m
              · subst y; exact z
              · exact k1 i (by omega)
            cases o with
            | none =>
              intro i
              rcases Nat.lt_or_ge i q.m with y | y
              · exact k1 i y
              · have := i1 (i - q.m)
                rw [← stI_add q.m, show q.m + (i - q.m) = i by omega] at this
                exact this
            | some Q =>
              obtain ⟨d', e1, e2, e3⟩ := i1
              refine ⟨q.m + d', by omega, by rw [stI_add]; exact e2, fun i hi => ?_⟩
              rcases Nat.lt_or_ge i q.m with y | y
              · exact k1 i y
              · have := e3 (i - q.m) (by omega)
                rw [← stI_add q.m, show q.m + (i - q.m) = i by omega] at this
                exact this
          refine ⟨o, lift, ?_⟩
          have nx : ∀ ys, forF (SG.name 6 : SG (HY Z)).f (b_comes_to_l1 Z).f [6] (partD q :: ys) [.d W, .d R, .d (.int P), .d (.int s), .d (.int g), .ob none Z.Going (goF W t (some g) d0), .un] = forF (SG.name 6 : SG (HY Z)).f (b_comes_to_l1 Z).f [6] ys [.d W, .d R, .d (.int (P + (q.m : Int))), .d (.int s), .d (.int g), .ob none Z.Going (goF W (stI es c P q.m t) (some g) (q.m : Int)), .un] := fun ys => by
            rw [forF_nx (δ1 := [.d W, .d R, .d (.int P), .d (.int s), .d (.int g), .ob none Z.Going (goF W t (some g) d0), .d (partD q)]) (by simp) k]
            simp
          rw [nx]; exact i2
  obtain ⟨o, h1, h2⟩ := hlp qs p s 0 al hs
  refine ⟨o, h1, ?_⟩
  generalize qs.map partD ++ [D.tup [.tup (vsD x.r), .int b, .non]] = QS at *
  rcases h2 with ⟨q, rfl, h2⟩ | ⟨rfl, δ, h2⟩
  · simp (disch := walk_at "dd") [F_comes_to_eq, b_comes_to, n1, n3, n4, hq, gi, h2, makeOF, dE]
  · simp (disch := walk_at "dd") [F_comes_to_eq, b_comes_to, n1, n3, n4, hq, gi, h2, makeOF, dE]

end
section
variable {Z : Zs}
theorem F_l_cell_v {ns : List Int} {k : Int} (hl : ns.length ≤ 63) : F_l_cell Z [scrD ns, .int k] = .ok (.d (.int (cell ns k))) := by
  cases ns with
  | nil => simp (disch := walk_at "dd") [F_l_cell_eq, b_l_cell, cell]
  | cons n r =>
    have hp : (0 : Int) < ((n :: r).length : Int) := by simp only [List.length_cons]; omega
    have hq : (((n :: r).map D.int).length : Int) = ((n :: r).length : Int) := by rw [List.length_map]
    have hat : L2.atI ((n :: r).map D.int) (k % ((n :: r).length : Int)) = some (.int ((n :: r).getD (k % ((n :: r).length : Int)).toNat 0)) := atI_ints (Int.emod_nonneg _ (by omega)) (Int.emod_lt_of_pos _ hp)
    have hlt : ((n :: r).length : Int) < 1073741824 := by omega
    have hne : (n :: r).isEmpty = false := rfl
    have hx : cell (n :: r) k = (let m := ((n :: r).getD (k % ((n :: r).length : Int)).toNat 0 * 48271 + 104729 * k + k / ((n :: r).length : Int) * 7919) % 2147483647; let m := m * m % 2147483629; (m * m + 69621 * m + k) % 2147483587) := rfl
    rw [hx]
    generalize n :: r = ns at *
    simp (disch := walk_at "dd") [F_l_cell_eq, b_l_cell, hne, hat]

end
section
variable {Z : Zs}
theorem F_l_value_e {c : Int} : ∃ v : Option Int, F_l_value Z [.int c] = .ok (.d (dE v)) := by
  have q8 := emod_in c (m := 8) (by decide)
  obtain ⟨v, _, hat⟩ := atI_exM (xs := [none, some 0, some 1, some (-1), some 5, some (1000000000000000000000000000000000000000000000000000000000000 - c / 8 % 3), none, some 1]) (ys := [.non, .int 0, .int 1, .int (-1), .int 5, .int (1000000000000000000000000000000000000000000000000000000000000 - c / 8 % 3), .non, .int 1]) rfl q8.1 (by show c % 8 < 8; exact q8.2)
  exact ⟨v, by simp (disch := walk_at "dd") [F_l_value_eq, b_l_value, hat]⟩

end
section
variable {Z : Zs}
theorem F_l_values_e {ns : List Int} {k : Int} {n : Nat} (hl : ns.length ≤ 63) (hn : n ≤ 1000) : ∃ vs : List (Option Int), vs.length = n ∧ F_l_values Z [scrD ns, .int k, .int (n : Int)] = .ok (.own (vsD vs)) := by
  have hh : hide [.d (scrD ns), .d (.int k), .d (.int (n : Int)), .un] [3] = [.d (scrD ns), .d (.int k), .d (.int (n : Int)), .un] := rfl
  obtain ⟨vs, hvl, _, hlc⟩ := lcF_exP (fun _ => True) (lo := 0) (n := n) (st := lcS (SG.name 3) (ST.yes : ST (HY Z)) (.call (F_l_value Z) (.cons (.call (F_l_cell Z) (.cons (.var 0) (.cons (.op oAdd (.var 1) (.var 3)) .nil))) .nil)) [.d (scrD ns), .d (.int k), .d (.int (n : Int)), .un]) (fun i hi => by
    have c1 := F_l_cell_v (Z := Z) (k := k + (i : Int)) hl
    obtain ⟨v, hv⟩ := F_l_value_e (Z := Z) (c := cell ns (k + (i : Int)))
    exact ⟨v, trivial, by simp [lcS, c1, hv]⟩)
  refine ⟨vs, hvl, ?_⟩
  simp (disch := walk_at "dd") [F_l_values_eq, b_l_values, hh, hlc, (show n ≤ 16777216 by omega)]

end
section
variable {Z : Zs}
theorem F_l_row_e {ns : List Int} {k : Int} (hl : ns.length ≤ 63) : ∃ x : RowV, RowOk x ∧ (x.m.length ≤ 8 ∧ x.l.length ≤ 6 ∧ x.r.length ≤ 6) ∧ F_l_row Z [scrD ns, .int k] = .ok (.d (toldD x)) := by
  have c0 := F_l_cell_v (Z := Z) (k := k) hl
  have b0 := cell_pos ns k
  generalize cell ns k = c at *
  have q1 := emod_in c (m := 6) (by decide)
  have q2 := emod_in (c / 6) (m := 9) (by decide)
  have q3 := emod_in (c / 54) (m := 6) (by decide)
  have q4 := emod_in (c / 324) (m := 5) (by decide)
  obtain ⟨n1, e1⟩ : ∃ n : Nat, (n : Int) = 1 + c % 6 := ⟨(1 + c % 6).toNat, by omega⟩
  obtain ⟨n2, e2⟩ : ∃ n : Nat, (n : Int) = c / 6 % 9 := ⟨(c / 6 % 9).toNat, by omega⟩
  obtain ⟨n3, e3⟩ : ∃ n : Nat, (n : Int) = 1 + c / 54 % 6 := ⟨(1 + c / 54 % 6).toNat, by omega⟩
  obtain ⟨l, l1, l2⟩ := F_l_values_e (Z := Z) (ns := ns) (k := k + 10) (n := n1) hl (by omega)
  obtain ⟨m, m1, m2⟩ := F_l_values_e (Z := Z) (ns := ns) (k := k + 20) (n := n2) hl (by omega)
  obtain ⟨r, r1, r2⟩ := F_l_values_e (Z := Z) (ns := ns) (k := k + 30) (n := n3) hl (by omega)
  obtain ⟨f, hf, _⟩ := atI_exI (fun _ => True) (xs := [0, 3, -7, 1000000000000000000000000000000, -1000000000000000000000000000000]) (ys := [.int 0, .int 3, .int (-7), .int 1000000000000000000000000000000, .int (-1000000000000000000000000000000)]) (i := c / 324 % 5) rfl q4.1 (by show c / 324 % 5 < 5; omega) (fun _ _ => trivial)
  have t1 := len_vsD l
  have t2 := len_vsD m
  have t3 := len_vsD r
  refine ⟨⟨l, m, f + c / 1620 % 5, r⟩, ⟨fun z => by rw [show l = [] from z] at l1; simp at l1; omega, by show l.length ≤ 4000; omega, fun z => by rw [show r = [] from z] at r1; simp at r1; omega, by show r.length ≤ 4000; omega⟩, ⟨by show m.length ≤ 8; omega, by show l.length ≤ 6; omega, by show r.length ≤ 6; omega⟩, ?_⟩
  rw [e1] at l2
  rw [e2] at m2
  rw [e3] at r2
  simp (disch := walk_at "dd") [F_l_row_eq, b_l_row, c0, l2, m2, r2, hf]

end
section
variable {Z : Zs}
theorem F_l_value_at_v {x : RowV} {p : Int} (h : RowOk x) : F_l_value_at Z [toldD x, .int p] = .ok (.d (dE (cellR x p))) := by
  have p1 := pos_len h.l0
  have p2 := pos_len h.r0
  unfold cellR
  by_cases h1 : p - x.f < 0
  · have h1' : p < x.f := by omega
    simp (disch := walk_at "dd") [F_l_value_at_eq, b_l_value_at, h1, h1', atI_tell h.l0]
  · have h1' : ¬ p < x.f := by omega
    by_cases h2 : p - x.f < (x.m.length : Int)
    · have hat := tell_at (ring := x.m) (q := p - x.f) (by omega) h2
      simp (disch := walk_at "dd") [F_l_value_at_eq, b_l_value_at, h1, h1', h2, hat]
    · simp (disch := walk_at "dd") [F_l_value_at_eq, b_l_value_at, h1, h1', h2, atI_tell h.r0]

end
section
variable {Z : Zs}
theorem F_l_walker_e {ns : List Int} {k : Int} (hl : ns.length ≤ 63) : ∃ (n : Nat) (es : List (List KO × D)), 1 ≤ n ∧ n ≤ 30 ∧ TabE es (n : Int) ∧ F_l_walker Z [scrD ns, .int k] = .ok (.d (.tup [.int (n : Int), .dT es])) := by
  have c0 := F_l_cell_v (Z := Z) (k := k) hl
  have b0 := cell_pos ns k
  generalize cell ns k = c at *
  have q1 := emod_in c (m := 6) (by decide)
  have q2 := emod_in (c / 6) (m := 6) (by decide)
  obtain ⟨N, hN, N1⟩ := atI_exI (fun n => 1 ≤ n ∧ n ≤ 30) (xs := [1 + c % 6, 30, 2, 3, 5, 8]) (ys := [.int (1 + c % 6), .int 30, .int 2, .int 3, .int 5, .int 8]) (i := c / 6 % 6) rfl q2.1 (by show c / 6 % 6 < 6; omega) (by
    simp only [List.mem_cons, List.not_mem_nil, or_false]
    rintro x (rfl | rfl | rfl | rfl | rfl | rfl) <;> omega)
  obtain ⟨n, rfl⟩ : ∃ n : Nat, (n : Int) = N := ⟨N.toNat, by omega⟩
  have inner : ∀ (i : Nat) (es : List (List KO × D)), i < n → DrawW (n : Int) i 0 es → ∃ es', DrawW (n : Int) (i + 1) 0 es' ∧ (b_l_walker_l2 Z).f [.d (scrD ns), .d (.int k), .d (.int c), .d (.int (n : Int)), .okt es, .d (.int (i : Int)), .un, .un, .un] = .nx [.d (scrD ns), .d (.int k), .d (.int c), .d (.int (n : Int)), .okt es', .d (.int (i : Int)), .un, .un, .un] := by
    intro i es hi h0
    have key := forF_pred (g := (SG.name 6 : SG (HY Z)).f) (body := (b_l_walker_l1 Z).f) (vs := [6, 7, 8]) (ys := rg 0 7) (δ := [.d (scrD ns), .d (.int k), .d (.int c), .d (.int (n : Int)), .okt es, .d (.int (i : Int)), .un, .un, .un])
      (R := fun r => ∃ es', DrawW (n : Int) i 7 es' ∧ r = .nx [.d (scrD ns), .d (.int k), .d (.int c), .d (.int (n : Int)), .okt es', .d (.int (i : Int)), .un, .un, .un])
      (P := fun j δ => ∃ es', DrawW (n : Int) i j es' ∧ δ = [.d (scrD ns), .d (.int k), .d (.int c), .d (.int (n : Int)), .okt es', .d (.int (i : Int)), .un, .un, .un])
      (fun j y δ hy ⟨es1, h1, e⟩ => by
        obtain ⟨hj, rfl⟩ := rg_get hy
        subst e
        have c1 := F_l_cell_v (Z := Z) (k := k + 1 + 7 * (i : Int) + (j : Int)) hl
        have b1 := cell_pos ns (k + 1 + 7 * (i : Int) + (j : Int))
        generalize cell ns (k + 1 + 7 * (i : Int) + (j : Int)) = e at *
        have le := h1.len (by omega) (by omega)
        by_cases q : e % 5 > 0
        · have q2 := emod_in (e / 200) (m := 2) (by decide)
          have g1 := emod_in (e / 5) (m := (n : Int)) (by omega)
          have g2 := emod_in ((i : Int) + 1) (m := (n : Int)) (by omega)
          obtain ⟨g, hg, hg1⟩ := atI_exI (fun g => 0 ≤ g ∧ g < (n : Int)) (xs := [e / 5 % (n : Int), ((i : Int) + 1) % (n : Int)]) (ys := [.int (e / 5 % (n : Int)), .int (((i : Int) + 1) % (n : Int))]) (i := e / 200 % 2) rfl q2.1 (by show e / 200 % 2 < 2; omega) (by
            simp only [List.mem_cons, List.not_mem_nil, or_false]
            rintro x (rfl | rfl)
            · exact g1
            · exact g2)
          obtain ⟨w, hw⟩ := F_l_value_e (Z := Z) (c := e / 400)
          obtain ⟨p1, p2⟩ := h1.put (g := g) (w := w) (by omega) hj hg1
          have kv : L2.atI [D.non, .int 0, .int 1, .int (-1), .int 5, .int 1000000000000000000000000000000000000000000000000000000000000, .int 999999999999999999999999999999999999999999999999999999999999] (j : Int) = some (dE (valsW.getD j none)) := by
            have hj : j < 7 := hj
            rcases (show j = 0 ∨ j = 1 ∨ j = 2 ∨ j = 3 ∨ j = 4 ∨ j = 5 ∨ j = 6 by omega) with rfl | rfl | rfl | rfl | rfl | rfl | rfl <;> rfl
          have kt : keyT (.tup [.int (i : Int), dE (valsW.getD j none)]) = some (keyW i j) := keyT_sv _ _
          refine ⟨_, by simp; rfl, .inl ⟨[.d (scrD ns), .d (.int k), .d (.int c), .d (.int (n : Int)), .okt (es1 ++ [(keyW i j, .tup [.int g, dE w])]), .d (.int (i : Int)), .d (.int (j : Int)), .d (.int e), .d (.int g)], .inl ?_, _, p2, by simp⟩⟩
          generalize valsW.getD j none = vj at *
          generalize keyW i j = kk at *
          generalize hes : es1 ++ [(kk, D.tup [.int g, dE w])] = es2 at *
          simp (disch := walk_at "dd") [-keyT_2, b_l_walker_l1, c1, q, hg, hw, kv, kt, p1, (show es1.length < 16777216 by omega)]
        · refine ⟨_, by simp; rfl, .inl ⟨[.d (scrD ns), .d (.int k), .d (.int c), .d (.int (n : Int)), .okt es1, .d (.int (i : Int)), .d (.int (j : Int)), .d (.int e), .un], .inl ?_, _, h1.pass, by simp⟩⟩
          simp (disch := walk_at "dd") [b_l_walker_l1, c1, q])
      (fun δ ⟨es', h1, e⟩ => ⟨es', h1, by rw [e]⟩) ⟨es, h0, rfl⟩
    obtain ⟨es', h1, h2⟩ := key
    refine ⟨es', ⟨h1.all, by rw [← keysW_7]; exact h1.sub⟩, ?_⟩
    simp (disch := walk_at "dd") [b_l_walker_l2, h2]
  have key := forF_pred (g := (SG.name 5 : SG (HY Z)).f) (body := (b_l_walker_l2 Z).f) (vs := [5, 6, 7, 8]) (ys := rg 0 n) (δ := [.d (scrD ns), .d (.int k), .d (.int c), .d (.int (n : Int)), .okt [], .un, .un, .un, .un])
    (R := fun r => ∃ es', DrawW (n : Int) n 0 es' ∧ r = .nx [.d (scrD ns), .d (.int k), .d (.int c), .d (.int (n : Int)), .okt es', .un, .un, .un, .un])
    (P := fun i δ => ∃ es', DrawW (n : Int) i 0 es' ∧ δ = [.d (scrD ns), .d (.int k), .d (.int c), .d (.int (n : Int)), .okt es', .un, .un, .un, .un])
    (fun i y δ hy ⟨es1, h1, e⟩ => by
      obtain ⟨hi, rfl⟩ := rg_get hy
      subst e
      obtain ⟨es2, h2, e2⟩ := inner i es1 hi h1
      refine ⟨[.d (scrD ns), .d (.int k), .d (.int c), .d (.int (n : Int)), .okt es1, .d (.int (i : Int)), .un, .un, .un], by simp, .inl ⟨_, .inl e2, es2, h2, by simp⟩⟩)
    (fun δ ⟨es', h1, e⟩ => ⟨es', by simpa using h1, by rw [e]⟩) ⟨[], ⟨fun p hp => by simp at hp, by simp⟩, rfl⟩
  obtain ⟨es, h1, h2⟩ := key
  refine ⟨n, es, by omega, by omega, h1.tab (by omega), ?_⟩
  simp (disch := walk_at "dd") [F_l_walker_eq, b_l_walker, c0, hN, h2, (show n ≤ 16777216 by omega)]

end
section
variable {Z : Zs}
theorem F_l_steps_v {es : List (List KO × D)} {n s : Int} {vs : List (Option Int)} {c : Int → Option Int} {p : Int} {X : D} (h : TabE es n) (hX : X = .tup (vsD vs) ∨ X = .lst (vsD vs)) (hc : ∀ i : Nat, i < vs.length → vs.getD i none = c (p + (i : Int))) : F_l_steps Z [.tup [.int n, .dT es], .int s, X] = .ok (.d (.int (stI es c p vs.length s))) := by
  have t1 : L2.atI [D.int n, .dT es] 1 = some (.dT es) := (rfl)
  have hlp := forF_inv (g := (SG.name 3 : SG (HY Z)).f) (body := (b_l_steps_l1 Z).f) (vs := [3]) (ys := vsD vs) (fun i => [.d (.tup [.int n, .dT es]), .d (.int (stI es c p i s)), .d X, .un]) (fun i y hy => by
    have hi : i < vs.length := by rw [← len_vsD]; exact (List.getElem?_eq_some_iff.mp hy).1
    have hv : y = dE (c (p + (i : Int))) := by
      rw [← hc i hi, List.getD_eq_getElem?_getD]
      unfold vsD at hy
      rw [List.getElem?_map] at hy
      obtain ⟨v, hv, rfl⟩ := Option.map_eq_some_iff.mp hy
      rw [hv]; rfl
    subst hv
    obtain ⟨w, hw⟩ := h.getD0 (stI es c p i s) (c (p + (i : Int))) .non
    have k := keyT_sv (stI es c p i s) (c (p + (i : Int)))
    have t0 : L2.atI [D.int (nxE es (stI es c p i s) (c (p + (i : Int)))), w] 0 = some (.int (nxE es (stI es c p i s) (c (p + (i : Int))))) := (rfl)
    have e1 : stI es c p (i + 1) s = nxE es (stI es c p i s) (c (p + (i : Int))) := rfl
    generalize stI es c p (i + 1) s = s2 at *
    generalize stI es c p i s = s1 at *
    generalize c (p + (i : Int)) = v at *
    subst e1
    refine ⟨_, _, by simp; rfl, .inl (by simp (disch := walk_at "dd") [-keyT_2, b_l_steps_l1, t1, k, hw, t0]; rfl), by simp⟩)
  rw [show stI es c p 0 s = s from rfl, len_vsD] at hlp
  rcases hX with rfl | rfl <;> simp (disch := walk_at "dd") [F_l_steps_eq, b_l_steps, hlp]

end
section
variable {Z : Zs}
theorem F_l_round_v {es : List (List KO × D)} {n : Nat} {s : Int} {vs : List (Option Int)} {m : Nat} {X : D} (hT : TabE es (n : Int)) (hn : n ≤ 1000) (hs : 0 ≤ s ∧ s < (n : Int)) (hX : X = .tup (vsD vs) ∨ X = .lst (vsD vs)) : F_l_round Z [.tup [.int (n : Int), .dT es], X, .int (m : Int), .int s] = .ok (.d (.int (itN (fun s => stI es (tell vs) 0 vs.length s) m s))) := by
  generalize hT0 : (fun s => stI es (tell vs) 0 vs.length s) = f
  have fE : ∀ s, stI es (tell vs) 0 vs.length s = f s := fun s => by rw [← hT0]
  have fP : ∀ s, (0 ≤ s ∧ s < (n : Int)) → 0 ≤ f s ∧ f s < (n : Int) := fun s hs => by rw [← hT0]; exact stI_rg hT hs _
  have st : ∀ s, F_l_steps Z [.tup [.int (n : Int), .dT es], .int s, X] = .ok (.d (.int (f s))) := fun s => by
    rw [← fE]
    exact F_l_steps_v hT hX fun i hi => by
      unfold tell
      rw [Int.zero_add, Int.emod_eq_of_lt (by omega) (by omega)]; simp
  have t0 : L2.atI [D.int (n : Int), .dT es] 0 = some (.int (n : Int)) := (rfl)
  generalize hW : D.tup [.int (n : Int), .dT es] = W at *
  have lc : lcF (lcS (SG.name 5) (ST.yes : ST (HY Z)) (.call (F_l_steps Z) (.cons (.var 0) (.cons (.var 5) (.cons (.var 1) .nil)))) [.d W, .d X, .d (.int (m : Int)), .d (.int s), .un, .un]) (rg 0 n) = .ok (tabI n f) := lcF_rg (f := fun (i : Nat) => D.int (f (i : Int))) fun i hi => by
    have := st (i : Int)
    simp [lcS, this]
  have hh : hide [.d W, .d X, .d (.int (m : Int)), .d (.int s), .un, .un] [5] = [.d W, .d X, .d (.int (m : Int)), .d (.int s), .un, .un] := rfl
  obtain ⟨r, ⟨q, hr⟩, hw⟩ := whF_ex (c := (.of (.op oGt (.var 2) (.int 0)) : ST (HY Z)).f) (body := (b_l_round_l1 Z).f) (vs := [])
    (fun q : Nat × Nat × Int => [.d W, .d X, .d (.int (q.1 : Int)), .d (.int q.2.2), .d (.lst (tabI n (itN f q.2.1))), .un])
    (fun q => itN f (q.1 * q.2.1) q.2.2 = itN f m s ∧ 0 ≤ q.2.2 ∧ q.2.2 < (n : Int)) (fun q => q.1)
    (fun r => ∃ Q, r = .nx [.d W, .d X, .d (.int 0), .d (.int (itN f m s)), .d (.lst Q), .un]) (fun q hq => by
      obtain ⟨a, b, t⟩ := q
      obtain ⟨h1, h2⟩ := hq
      dsimp only at h1 h2 ⊢
      by_cases z : 0 < a
      · right
        refine ⟨by simp (disch := walk_at "dd") [z], ?_⟩
        left
        have Pb : ∀ u, (0 ≤ u ∧ u < (n : Int)) → 0 ≤ itN f b u ∧ itN f b u < (n : Int) := fun u hu => itN_P (P := fun u => 0 ≤ u ∧ u < (n : Int)) fP b u hu
        have ta := tabI_at (f := itN f b) h2
        have lc2 : ∀ (y3 : Int), lcF (lcS (SG.name 5) (ST.yes : ST (HY Z)) (.op oIx (.var 4) (.var 5)) [.d W, .d X, .d (.int (a : Int)), .d (.int y3), .d (.lst (tabI n (itN f b))), .un]) (tabI n (itN f b)) = .ok (tabI n (itN f (b * 2))) := fun y3 => by
          have := lcF_all (st := lcS (SG.name 5) (ST.yes : ST (HY Z)) (.op oIx (.var 4) (.var 5)) [.d W, .d X, .d (.int (a : Int)), .d (.int y3), .d (.lst (tabI n (itN f b))), .un]) (h := fun (i : Nat) => D.int (itN f b (i : Int))) (f := fun (i : Nat) => D.int (itN f (b * 2) (i : Int))) (ys := List.range n) fun i hi => by
            have hi := List.mem_range.mp hi
            have tb := tabI_at (f := itN f b) (Pb (i : Int) ⟨by omega, by omega⟩)
            have e : itN f (b * 2) (i : Int) = itN f b (itN f b (i : Int)) := by rw [Nat.mul_succ, Nat.mul_one, itN_add]
            rw [e]
            generalize tabI n (itN f b) = TB at *
            simp (disch := walk_at "dd") [lcS, tb]
          exact this
        have hh2 : ∀ y3 : Int, hide [.d W, .d X, .d (.int (a : Int)), .d (.int y3), .d (.lst (tabI n (itN f b))), .un] [5] = [.d W, .d X, .d (.int (a : Int)), .d (.int y3), .d (.lst (tabI n (itN f b))), .un] := fun _ => rfl
        have tl : (tabI n (itN f b)).length ≤ 16777216 := by unfold tabI; rw [List.length_map, List.length_range]; omega
        have ad : ((a : Int) / 2) = ((a / 2 : Nat) : Int) := by omega
        by_cases o : a % 2 = 1
        · have o1 : (a : Int) % 2 = 1 := by omega
          refine ⟨(a / 2, b * 2, itN f b t), ⟨?_, Pb t h2⟩, by dsimp only; omega, [.d W, .d X, .d (.int ((a : Int) / 2)), .d (.int (itN f b t)), .d (.lst (tabI n (itN f (b * 2)))), .un], .inl ?_, by rw [ad]; rfl⟩
          · dsimp only
            rw [← itN_add, ← h1]
            congr 1
            have : a = 2 * (a / 2) + 1 := by omega
            generalize a / 2 = c at *
            subst this
            rw [Nat.add_mul, Nat.one_mul, Nat.mul_comm 2 c, Nat.mul_assoc, Nat.mul_comm 2 b]; omega
          · generalize tabI n (itN f (b * 2)) = T2 at *
            generalize tabI n (itN f b) = T1 at *
            simp (disch := walk_at "dd") [b_l_round_l1, o1, ta, hh2, lc2, tl]
        · have o1 : ¬ (a : Int) % 2 = 1 := by omega
          refine ⟨(a / 2, b * 2, t), ⟨?_, h2⟩, by dsimp only; omega, [.d W, .d X, .d (.int ((a : Int) / 2)), .d (.int t), .d (.lst (tabI n (itN f (b * 2)))), .un], .inl ?_, by rw [ad]; rfl⟩
          · dsimp only
            rw [← h1]
            congr 1
            have : a = 2 * (a / 2) := by omega
            generalize a / 2 = c at *
            subst this
            rw [Nat.mul_comm 2 c, Nat.mul_assoc, Nat.mul_comm 2 b]
          · generalize tabI n (itN f (b * 2)) = T2 at *
            generalize tabI n (itN f b) = T1 at *
            simp (disch := walk_at "dd") [b_l_round_l1, o1, hh2, lc2, tl]
      · left
        have a0 : a = 0 := by omega
        subst a0
        refine ⟨by simp (disch := walk_at "dd"), tabI n (itN f b), ?_⟩
        rw [Nat.zero_mul] at h1
        rw [← h1]; rfl) (m, 1, s) ⟨by rw [Nat.mul_one], hs⟩
  subst hr
  rw [show itN f 1 = f by funext u; rfl] at hw
  have tl : n ≤ 16777216 := by omega
  generalize tabI n f = T1 at *
  generalize itN f m s = R1 at *
  rw [← hW] at hw lc hh ⊢
  simp (disch := walk_at "dd") [F_l_round_eq, b_l_round, t0, hh, lc, hw, tl]

end
section
variable {Z : Zs}
theorem F_l_along_v {es : List (List KO × D)} {n : Nat} {s b : Int} {vs : List (Option Int)} {m : Nat} (hT : TabE es (n : Int)) (hn : n ≤ 1000) (hs : 0 ≤ s ∧ s < (n : Int)) (hv : vs ≠ []) (hl : vs.length ≤ 4000) (hb : 0 ≤ b ∧ b < (vs.length : Int)) : F_l_along Z [.tup [.int (n : Int), .dT es], .tup (vsD vs), .int b, .int (m : Int), .int s] = .ok (.d (.int (stI es (tell vs) b m s))) := by
  have v0 := pos_len hv
  let w := vs.drop b.toNat ++ vs.take b.toNat
  have hw : w = vs.drop b.toNat ++ vs.take b.toNat := rfl
  have wl : w.length = vs.length := by rw [hw, List.length_append, List.length_drop, List.length_take]; omega
  clear_value w
  have wt : ∀ i : Nat, i < vs.length → w.getD i none = tell vs (b + (i : Int)) := fun i hi => by
    rw [hw]
    unfold tell
    rw [List.getD_eq_getElem?_getD, List.getD_eq_getElem?_getD]
    congr 1
    rcases Nat.lt_or_ge i (vs.length - b.toNat) with q | q
    · rw [List.getElem?_append_left (by rw [List.length_drop]; exact q), List.getElem?_drop, Int.emod_eq_of_lt (by omega) (by omega)]
      congr 1; omega
    · rw [List.getElem?_append_right (by rw [List.length_drop]; exact q), List.length_drop, List.getElem?_take, if_pos (by omega)]
      congr 1
      have : (b + (i : Int)) % (vs.length : Int) = b + (i : Int) - (vs.length : Int) := by
        rw [← Int.sub_emod_right, Int.emod_eq_of_lt (by omega) (by omega)]
      rw [this]; omega
  have tw : ∀ i : Int, tell w i = tell vs (b + i) := fun i => by
    have h1 := emod_in i (m := (vs.length : Int)) (by omega)
    have e1 : tell w i = w.getD (i % (vs.length : Int)).toNat none := by unfold tell; rw [wl]
    rw [e1, wt _ (by omega)]
    unfold tell
    rw [show (((i % (vs.length : Int)).toNat : Nat) : Int) = i % (vs.length : Int) by omega, Int.add_emod_emod]
  have P : Per (tell w) (vs.length : Int) := by rw [← wl]; exact per_tell w
  have rd := F_l_round_v (Z := Z) (m := m / vs.length) (X := .tup (vsD w)) hT hn hs (.inl rfl)
  rw [wl, itN_st (p := 0) P] at rd
  have rg := stI_rg (c := tell w) (p := 0) hT hs (m / vs.length * vs.length)
  have ml : m % vs.length < vs.length := Nat.mod_lt _ (by omega)
  have sp := F_l_steps_v (Z := Z) (n := (n : Int)) (s := stI es (tell w) 0 (m / vs.length * vs.length) s) (vs := w.take (m % vs.length)) (c := tell w) (p := 0 + ((m / vs.length * vs.length : Nat) : Int)) (X := .tup (vsD (w.take (m % vs.length)))) hT (.inl rfl) (fun i hi => by
    rw [List.length_take] at hi
    have h2 : tell w (0 + ((m / vs.length * vs.length : Nat) : Int) + (i : Int)) = tell w (i : Int) := by
      have := (P.mul ((m / vs.length : Nat) : Int)) (i : Int)
      rw [← this]; congr 1; rw [Int.natCast_mul]; omega
    rw [h2]
    unfold tell
    rw [wl, Int.emod_eq_of_lt (by omega) (by omega), List.getD_eq_getElem?_getD, List.getD_eq_getElem?_getD, List.getElem?_take, if_pos (by omega)]
    congr 2)
  have tl : (w.take (m % vs.length)).length = m % vs.length := by rw [List.length_take]; omega
  rw [tl, ← stI_add, Nat.div_add_mod'] at sp
  rw [show stI es (tell w) 0 m s = stI es (tell vs) b m s from stI_congr fun i _ => by rw [tw]; congr 1; omega] at sp
  have d1 : ((m : Int) / (vs.length : Int)) = ((m / vs.length : Nat) : Int) := by norm_cast
  have d2 : ((m : Int) % (vs.length : Int)) = ((m % vs.length : Nat) : Int) := by norm_cast
  have hvl : w.length ≤ 4000 := by omega
  have cc : addF (.tup ((vsD vs).drop b.toNat)) (.tup ((vsD vs).take b.toNat)) = some (.d (.tup (vsD w))) := by
    rw [addF_tup (by rw [List.length_drop, List.length_take, len_vsD]; omega), hw]
    unfold vsD
    rw [List.map_append, List.map_drop, List.map_take]
  have ct : (vsD w).take (m % vs.length) = vsD (w.take (m % vs.length)) := by unfold vsD; rw [List.map_take]
  have wL : ((vsD w).length : Int) = (vs.length : Int) := by rw [len_vsD, wl]
  have b0 : 0 ≤ b := hb.1
  have L1 : (0 : Int) < (vs.length : Int) := by omega
  have L2 : (vs.length : Int) < 1073741824 := by omega
  generalize hA : stI es (tell w) 0 (m / vs.length * vs.length) s = A at *
  generalize stI es (tell vs) b m s = A2 at *
  generalize hW : D.tup [.int (n : Int), .dT es] = W at *
  rw [← d1] at rd
  have m0 : (0 : Int) ≤ (m : Int) % (vs.length : Int) := Int.emod_nonneg _ (by omega)
  have mt : ((m : Int) % (vs.length : Int)).toNat = m % vs.length := by rw [d2]; omega
  have dv : divF (.int (m : Int)) (.int (vs.length : Int)) = some (.d (.int ((m : Int) / (vs.length : Int)))) := divF_small L1 L2
  have md : modF (.int (m : Int)) (.int (vs.length : Int)) = some (.d (.int ((m : Int) % (vs.length : Int)))) := modF_int L1
  generalize (m : Int) / (vs.length : Int) = dq at *
  generalize (m : Int) % (vs.length : Int) = mq at *
  generalize vsD (w.take (m % vs.length)) = TK at *
  rw [← mt] at ct
  clear hw wt tw P mt L1 L2 d1 d2 tl ml rg hvl
  simp (disch := walk_at "dd") [-addF_tup, -divF_small, -modF_int, F_l_along_eq, b_l_along, cc, wl, rd, dv, md]
  have ct2 : List.take mq.toNat (List.map dE w) = TK := ct
  first | rw [ct2] | rw [ct]
  rw [sp]; rfl

end
section
variable {Z : Zs}
theorem F_l_state_at_v {es : List (List KO × D)} {n : Nat} {x : RowV} {p s e : Int} (h : RowOk x) (hm : x.m.length ≤ 4000) (hT : TabE es (n : Int)) (hn : n ≤ 1000) (hs : 0 ≤ s ∧ s < (n : Int)) (hpe : p ≤ e) : F_l_state_at Z [.tup [.int (n : Int), .dT es], toldD x, .int p, .int s, .int e] = .ok (.d (.int (stI es (cellR x) p (e - p).toNat s))) := by
  obtain ⟨l, m, f, r⟩ := x
  have l0 : l ≠ [] := h.l0
  have l1 : l.length ≤ 4000 := h.l1
  have r0 : r ≠ [] := h.r0
  have r1 : r.length ≤ 4000 := h.r1
  have hm : m.length ≤ 4000 := hm
  have lp := pos_len l0
  have rp := pos_len r0
  have cL : ∀ q, q < f → cellR ⟨l, m, f, r⟩ q = tell l (q - f) := fun q hq => by
    unfold cellR; exact if_pos (by show q - f < 0; omega)
  have cM : ∀ q, f ≤ q → q < f + (m.length : Int) → cellR ⟨l, m, f, r⟩ q = m.getD (q - f).toNat none := fun q h1 h2 => by
    unfold cellR
    rw [if_neg (show ¬ q - f < 0 by omega), if_pos (show q - f < (m.length : Int) by omega)]
  have cR : ∀ q, f + (m.length : Int) ≤ q → cellR ⟨l, m, f, r⟩ q = tell r (q - f - (m.length : Int)) := fun q h1 => by
    unfold cellR
    rw [if_neg (show ¬ q - f < 0 by omega), if_neg (show ¬ q - f < (m.length : Int) by omega)]
  have tmod : ∀ (v : List (Option Int)) (a i : Int), tell v (a % (v.length : Int) + i) = tell v (a + i) := fun v a i => by
    unfold tell; rw [Int.emod_add_emod]
  generalize hM : (m.length : Int) = M at *
  have M0 : 0 ≤ M := by omega
  generalize hc : cellR ⟨l, m, f, r⟩ = c at *
  -- three legs
  let p1 := if p < f then min f e else p
  have hp1 : p1 = if p < f then min f e else p := rfl
  let p2 := if p1 < min (f + M) e then min (f + M) e else p1
  have hp2 : p2 = if p1 < min (f + M) e then min (f + M) e else p1 := rfl
  clear_value p1 p2
  have b1 : p ≤ p1 ∧ p1 ≤ e ∧ (f ≤ p1 ∨ p1 = e) := by split at hp1 <;> omega
  have b2 : p1 ≤ p2 ∧ p2 ≤ e ∧ (f + M ≤ p2 ∨ p2 = e) := by split at hp2 <;> omega
  have s1 := stI_rg (c := c) (p := p) hT hs (p1 - p).toNat
  have s2 := stI_rg (c := c) (p := p) hT hs (p2 - p).toNat
  have y1 : p < f → F_l_along Z [.tup [.int (n : Int), .dT es], .tup (vsD l), .int ((p - f) % (l.length : Int)), .int (p1 - p), .int s] = .ok (.d (.int (stI es c p (p1 - p).toNat s))) := fun z => by
    have k := F_l_along_v (Z := Z) (m := (p1 - p).toNat) hT hn hs l0 l1 (emod_in (p - f) (by omega))
    rw [show (((p1 - p).toNat : Nat) : Int) = p1 - p by omega] at k
    have q : stI es (tell l) ((p - f) % (l.length : Int)) (p1 - p).toNat s = stI es c p (p1 - p).toNat s := stI_congr fun i hi => by
      rw [tmod, cL _ (by rw [if_pos z] at hp1; omega)]; congr 1; omega
    rw [k, q]
  have y2 : p1 < min (f + M) e → F_l_steps Z [.tup [.int (n : Int), .dT es], .int (stI es c p (p1 - p).toNat s), .tup (vsD ((m.drop (p1 - f).toNat).take (p2 - p1).toNat))] = .ok (.d (.int (stI es c p (p2 - p).toNat s))) := fun z => by
    rw [if_pos z] at hp2
    have ll : ((m.drop (p1 - f).toNat).take (p2 - p1).toNat).length = (p2 - p1).toNat := by rw [List.length_take, List.length_drop]; omega
    have k := F_l_steps_v (Z := Z) (n := (n : Int)) (s := stI es c p (p1 - p).toNat s) (vs := (m.drop (p1 - f).toNat).take (p2 - p1).toNat) (c := c) (p := p1) hT (.inl rfl) (fun i hi => by
      rw [ll] at hi
      rw [cM _ (by omega) (by omega), List.getD_eq_getElem?_getD, List.getD_eq_getElem?_getD, List.getElem?_take, if_pos hi, List.getElem?_drop]
      congr 2; omega)
    rw [k, ll]
    have := stI_add (es := es) (c := c) (p := p) (s := s) (p1 - p).toNat (p2 - p1).toNat
    rw [show (p1 - p).toNat + (p2 - p1).toNat = (p2 - p).toNat by omega, show p + (((p1 - p).toNat : Nat) : Int) = p1 by omega] at this
    rw [this]
  have y3 : p2 < e → F_l_along Z [.tup [.int (n : Int), .dT es], .tup (vsD r), .int ((p2 - (f + M)) % (r.length : Int)), .int (e - p2), .int (stI es c p (p2 - p).toNat s)] = .ok (.d (.int (stI es c p (e - p).toNat s))) := fun z => by
    have k := F_l_along_v (Z := Z) (m := (e - p2).toNat) hT hn s2 r0 r1 (emod_in (p2 - (f + M)) (by omega))
    rw [show (((e - p2).toNat : Nat) : Int) = e - p2 by omega] at k
    rw [k]
    have := stI_add (es := es) (c := c) (p := p) (s := s) (p2 - p).toNat (e - p2).toNat
    rw [show (p2 - p).toNat + (e - p2).toNat = (e - p).toNat by omega, show p + (((p2 - p).toNat : Nat) : Int) = p2 by omega] at this
    have q : ∀ t, stI es (tell r) ((p2 - (f + M)) % (r.length : Int)) (e - p2).toNat t = stI es c p2 (e - p2).toNat t := fun t => stI_congr fun i hi => by
      rw [tmod, cR _ (by omega)]; congr 1; omega
    rw [this, q]
  have z1 : ¬ p < f → stI es c p (p1 - p).toNat s = s := fun z => by rw [if_neg z] at hp1; rw [hp1, show (p - p).toNat = 0 by omega]; rfl
  have z2 : ¬ p1 < min (f + M) e → stI es c p (p2 - p).toNat s = stI es c p (p1 - p).toNat s := fun z => by rw [if_neg z] at hp2; rw [hp2]
  have z3 : ¬ p2 < e → stI es c p (e - p).toNat s = stI es c p (p2 - p).toNat s := fun z => by rw [show p2 = e by omega]
  have mc : p1 < min (f + M) e → cutD (vsD m) (some (p1 - f)) (some (p2 - f)) = vsD ((m.drop (p1 - f).toNat).take (p2 - p1).toNat) := fun z => by
    rw [if_pos z] at hp2
    rw [cut_midD (by omega) (by omega) (by rw [len_vsD]; omega), show p2 - f - (p1 - f) = p2 - p1 by omega]
    unfold vsD
    rw [List.map_take, List.map_drop]
  generalize hW : D.tup [.int (n : Int), .dT es] = W at *
  generalize vsD ((m.drop (p1 - f).toNat).take (p2 - p1).toNat) = TK at *
  generalize stI es c p (p1 - p).toNat s = t1 at *
  generalize stI es c p (p2 - p).toNat s = t2 at *
  generalize stI es c p (e - p).toNat s = t3 at *
  have rl : (0 : Int) < (r.length : Int) := by omega
  have lL : (0 : Int) < (l.length : Int) := by omega
  have lm : ((vsD m).length : Int) = M := by rw [len_vsD]; exact hM
  clear cL cM cR tmod h hc s1 s2
  have tail : ∀ (last : S), (SS.seq (.ite (.of (.op oLt (.var 2) (.cb bMin2 (.cons (.var 9) (.cons (.var 4) .nil))))) (.seq (.setD 3 (.call (F_l_steps Z) (.cons (.var 0) (.cons (.var 3) (.cons (.sl (.var 6) (.some (.op oSub (.var 2) (.var 7))) (.some (.op oSub (.cb bMin2 (.cons (.var 9) (.cons (.var 4) .nil))) (.var 7)))) .nil))))) (.setD 2 (.cb bMin2 (.cons (.var 9) (.cons (.var 4) .nil))))) .skip)
      (.seq (.ite (.of (.op oLt (.var 2) (.var 4))) (.setD 3 (.call (F_l_along Z) (.cons (.var 0) (.cons (.var 8) (.cons (.op oMod (.op oSub (.var 2) (.var 9)) (.cb bLen (.cons (.var 8) .nil))) (.cons (.op oSub (.var 4) (.var 2)) (.cons (.var 3) .nil))))))) .skip) (.ret (.var 3))) : SS (HY Z)).f
      [.d W, .d (toldD ⟨l, m, f, r⟩), .d (.int p1), .d (.int t1), .d (.int e), .d (.tup (vsD l)), .d (.tup (vsD m)), .d (.int f), .d (.tup (vsD r)), .d (.int (f + M)), last] = .rt (.d (.int t3)) := fun last => by
    generalize toldD ⟨l, m, f, r⟩ = TD at *
    by_cases a : p1 < min (f + M) e
    · have u2 := y2 a
      have mc := mc a
      rw [if_pos a] at hp2
      rw [← hp2] at a
      by_cases b : p2 < e
      · have u3 := y3 b
        simp (disch := walk_at "dd") [a, b, u2, u3, mc, ← hp2]
      · have u3 := z3 b
        subst u3
        simp (disch := walk_at "dd") [a, b, u2, mc, ← hp2]
    · have u2 := z2 a
      subst u2
      rw [if_neg a] at hp2
      subst hp2
      by_cases b : p2 < e
      · have u3 := y3 b
        simp (disch := walk_at "dd") [a, b, u3]
      · have u3 := z3 b
        subst u3
        simp (disch := walk_at "dd") [a, b]
  have td : L2.atI [D.tup (vsD l), .tup (vsD m), .int f, .tup (vsD r)] 0 = some (.tup (vsD l)) := (rfl)
  by_cases a : p < f
  · have u1 := y1 a
    rw [if_pos a] at hp1
    rw [F_l_state_at_eq, b_l_state_at]
    generalize (SS.seq (.ite (.of (.op oLt (.var 2) (.cb bMin2 (.cons (.var 9) (.cons (.var 4) .nil))))) (.seq (.setD 3 (.call (F_l_steps Z) (.cons (.var 0) (.cons (.var 3) (.cons (.sl (.var 6) (.some (.op oSub (.var 2) (.var 7))) (.some (.op oSub (.cb bMin2 (.cons (.var 9) (.cons (.var 4) .nil))) (.var 7)))) .nil))))) (.setD 2 (.cb bMin2 (.cons (.var 9) (.cons (.var 4) .nil))))) .skip)
      (.seq (.ite (.of (.op oLt (.var 2) (.var 4))) (.setD 3 (.call (F_l_along Z) (.cons (.var 0) (.cons (.var 8) (.cons (.op oMod (.op oSub (.var 2) (.var 9)) (.cb bLen (.cons (.var 8) .nil))) (.cons (.op oSub (.var 4) (.var 2)) (.cons (.var 3) .nil))))))) .skip) (.ret (.var 3))) : SS (HY Z)) = TL at tail ⊢
    have t2 := tail (.d (.int p1))
    simp (disch := walk_at "dd") [hM, a, ← hp1, u1, t2]
  · have u1 := z1 a
    rw [if_neg a] at hp1
    subst hp1 u1
    rw [F_l_state_at_eq, b_l_state_at]
    generalize (SS.seq (.ite (.of (.op oLt (.var 2) (.cb bMin2 (.cons (.var 9) (.cons (.var 4) .nil))))) (.seq (.setD 3 (.call (F_l_steps Z) (.cons (.var 0) (.cons (.var 3) (.cons (.sl (.var 6) (.some (.op oSub (.var 2) (.var 7))) (.some (.op oSub (.cb bMin2 (.cons (.var 9) (.cons (.var 4) .nil))) (.var 7)))) .nil))))) (.setD 2 (.cb bMin2 (.cons (.var 9) (.cons (.var 4) .nil))))) .skip)
      (.seq (.ite (.of (.op oLt (.var 2) (.var 4))) (.setD 3 (.call (F_l_along Z) (.cons (.var 0) (.cons (.var 8) (.cons (.op oMod (.op oSub (.var 2) (.var 9)) (.cb bLen (.cons (.var 8) .nil))) (.cons (.op oSub (.var 4) (.var 2)) (.cons (.var 3) .nil))))))) .skip) (.ret (.var 3))) : SS (HY Z)) = TL at tail ⊢
    have t2 := tail .un
    simp (disch := walk_at "dd") [hM, a, t2]

end
section
variable {Z : Zs}
theorem F_l_met_e {es : List (List KO × D)} {n : Int} {x : RowV} {p s g : Int} {m : Nat} (h : RowOk x) (hm : m ≤ 1000000) (hT : TabE es n) : ∃ d : Nat, d ≤ m + 1 ∧ (∀ i, i < d → ¬ stI es (cellR x) p i s = g) ∧ (d = m + 1 ∨ stI es (cellR x) p d s = g) ∧ F_l_met Z [.tup [.int n, .dT es], toldD x, .int p, .int s, .int g, .int (m : Int)] = .ok (.d (if d ≤ m then .tup [.int (d : Int), .int (stI es (cellR x) p d s)] else .tup [.non, .int (stI es (cellR x) p m s)])) := by
  obtain ⟨d, q1, q2, q3⟩ := first_ex (fun i => stI es (cellR x) p i s = g) (m + 1)
  refine ⟨d, q1, q2, q3, ?_⟩
  have va := fun q => F_l_value_at_v (Z := Z) (p := q) h
  have st : ∀ (t : Int) (v : Option Int), F_l_steps Z [.tup [.int n, .dT es], .int t, .lst [dE v]] = .ok (.d (.int (nxE es t v))) := fun t v => F_l_steps_v (Z := Z) (vs := [v]) (c := fun _ => v) (p := 0) hT (.inr rfl) (fun i hi => by
    have : i = 0 := by simp at hi; exact hi
    subst this; rfl)
  have e1 : ∀ i : Nat, stI es (cellR x) p (i + 1) s = nxE es (stI es (cellR x) p i s) (cellR x (p + (i : Int))) := fun i => rfl
  have e0 : stI es (cellR x) p 0 s = s := rfl
  generalize hS : (fun i => stI es (cellR x) p i s) = S at *
  have sE : ∀ i, stI es (cellR x) p i s = S i := fun i => by rw [← hS]
  simp only [sE] at *
  generalize cellR x = c at *
  generalize hT2 : toldD x = T at *
  generalize D.tup [.int n, .dT es] = W at *
  have key := forF_pred (g := (SG.name 6 : SG (HY Z)).f) (body := (b_l_met_l1 Z).f) (vs := [6]) (ys := rg 0 (m + 1)) (δ := [.d W, .d T, .d (.int p), .d (.int s), .d (.int g), .d (.int (m : Int)), .un])
    (R := fun r => r = if d ≤ m then .rt (.d (.tup [.int (d : Int), .int (S d)])) else .nx [.d W, .d T, .d (.int p), .d (.int (S m)), .d (.int g), .d (.int (m : Int)), .un])
    (P := fun i δ => i ≤ d ∧ δ = [.d W, .d T, .d (.int p), .d (.int (S (min i m))), .d (.int g), .d (.int (m : Int)), .un])
    (fun i y δ hy ⟨h1, h2⟩ => by
      obtain ⟨hi, rfl⟩ := rg_get hy
      subst h2
      rw [show min i m = i by omega]
      refine ⟨[.d W, .d T, .d (.int p), .d (.int (S i)), .d (.int g), .d (.int (m : Int)), .d (.int (i : Int))], by simp, ?_⟩
      by_cases z : S i = g
      · have id : i = d := by
          rcases Nat.lt_or_ge i d with y | y
          · exact (q2 i y z).elim
          · omega
        subst id
        right; left
        refine ⟨.d (.tup [.int (i : Int), .int (S i)]), ?_, by rw [if_pos (by omega)]⟩
        simp (disch := walk_at "dd") [b_l_met_l1, z]
      · left
        by_cases k : i < m
        · refine ⟨[.d W, .d T, .d (.int p), .d (.int (S (i + 1))), .d (.int g), .d (.int (m : Int)), .d (.int (i : Int))], .inl ?_, ?_, ?_⟩
          · have a1 := va (p + (i : Int))
            have a2 := st (S i) (c (p + (i : Int)))
            rw [← e1] at a2
            generalize S (i + 1) = s2 at *
            generalize c (p + (i : Int)) = v at *
            simp (disch := walk_at "dd") [b_l_met_l1, z, k, a1, a2]
          · rcases Nat.lt_or_ge i d with y | y
            · omega
            · have : i = d := by omega
              subst this
              rcases q3 with q3 | q3
              · omega
              · exact (z q3).elim
          · rw [show min (i + 1) m = i + 1 by omega]; simp
        · refine ⟨[.d W, .d T, .d (.int p), .d (.int (S i)), .d (.int g), .d (.int (m : Int)), .d (.int (i : Int))], .inl ?_, ?_, ?_⟩
          · simp (disch := walk_at "dd") [b_l_met_l1, z, k]
          · rcases Nat.lt_or_ge i d with y | y
            · omega
            · have : i = d := by omega
              subst this
              rcases q3 with q3 | q3
              · omega
              · exact (z q3).elim
          · rw [show min (i + 1) m = i by omega]; simp)
    (fun δ ⟨h1, h2⟩ => by
      have hlen : (rg 0 (m + 1)).length = m + 1 := by simp [rg]
      rw [hlen] at h1 h2
      have : ¬ d ≤ m := by omega
      rw [if_neg this, h2, show min (m + 1) m = m by omega]) ⟨Nat.zero_le _, by rw [Nat.zero_min, e0]⟩
  have mm : ((m : Int) + 1).toNat = m + 1 := by omega
  by_cases z : d ≤ m
  · rw [if_pos z] at key ⊢
    simp (disch := walk_at "dd") [F_l_met_eq, b_l_met, mm, key, (show m + 1 ≤ 16777216 by omega)]
  · rw [if_neg z] at key ⊢
    simp (disch := walk_at "dd") [F_l_met_eq, b_l_met, mm, key, (show m + 1 ≤ 16777216 by omega)]

end
section
variable {Z : Zs}
theorem F_l_due_e {es : List (List KO × D)} {n : Nat} {x : RowV} {p s g : Int} (h : RowOk x) (hl1 : x.l.length ≤ 100) (hm : x.m.length ≤ 100) (hr1 : x.r.length ≤ 100) (hT : TabE es (n : Int)) (hn : n ≤ 100) (hs : 0 ≤ s ∧ s < (n : Int)) : ∃ o, IsGoal es (cellR x) p s g o ∧ F_l_due Z [.tup [.int (n : Int), .dT es], toldD x, .int p, .int s, .int g] = .ok (.d (dE o)) := by
  have sa := fun e he => F_l_state_at_v (Z := Z) (p := p) (e := e) h (by omega) hT (by omega) hs he
  have met := fun (q t : Int) (m : Nat) hm => F_l_met_e (Z := Z) (p := q) (s := t) (g := g) (m := m) h hm hT
  obtain ⟨l, m, f, r⟩ := x
  have l0 : l ≠ [] := h.l0
  have l1 : l.length ≤ 100 := hl1
  have r0 : r ≠ [] := h.r0
  have r1 : r.length ≤ 100 := hr1
  have hm : m.length ≤ 100 := hm
  have lp := pos_len l0
  have rp := pos_len r0
  have cL : ∀ q, q < f → cellR ⟨l, m, f, r⟩ q = tell l (q - f) := fun q hq => by
    unfold cellR; exact if_pos (by show q - f < 0; omega)
  have cR : ∀ q, f + (m.length : Int) ≤ q → cellR ⟨l, m, f, r⟩ q = tell r (q - f - (m.length : Int)) := fun q h1 => by
    unfold cellR
    rw [if_neg (show ¬ q - f < 0 by omega), if_neg (show ¬ q - f < (m.length : Int) by omega)]
  have rg := fun i => stI_rg (c := cellR ⟨l, m, f, r⟩) (p := p) hT hs i
  generalize hM : (m.length : Int) = M at *
  have M0 : 0 ≤ M := by omega
  generalize hc : cellR ⟨l, m, f, r⟩ = c at *
  have bnd : ∀ k : Nat, k ≤ 100 → (n + 1) * k ≤ 10100 := fun k hk => by
    have := Nat.mul_le_mul (show n + 1 ≤ 101 by omega) hk; omega
  -- from P on, at the middle or behind it
  have late : ∀ (P t : Int), f ≤ P → (0 ≤ t ∧ t < (n : Int)) → ∃ (d mm : Nat), (mm : Int) = max 0 (f + M - P) + ((n : Int) + 1) * (r.length : Int) ∧ F_l_met Z [.tup [.int (n : Int), .dT es], toldD ⟨l, m, f, r⟩, .int P, .int t, .int g, .int (mm : Int)] = .ok (.d (if d ≤ mm then .tup [.int (d : Int), .int (stI es c P d t)] else .tup [.non, .int (stI es c P mm t)])) ∧ IsGoal es c P t g (if d ≤ mm then some (P + (d : Int)) else none) := fun P t hP ht => by
    have hb := bnd r.length r1
    let w := (f + M - P).toNat
    have hw : w = (f + M - P).toNat := rfl
    clear_value w
    have w1 : w ≤ 100 := by omega
    obtain ⟨d, k1, k2, k3, k4⟩ := met P t (w + (n + 1) * r.length) (by omega)
    refine ⟨d, w + (n + 1) * r.length, by push_cast; omega, k4, ?_⟩
    by_cases z : d ≤ w + (n + 1) * r.length
    · rw [if_pos z]
      rcases k3 with k3 | k3
      · omega
      · exact ⟨d, rfl, k3, k2⟩
    · rw [if_neg z]
      have cg : ∀ i u, stI es c (P + (w : Int)) i u = stI es (tell r) (P + (w : Int) - f - M) i u := fun i u => stI_congr fun j _ => by
        rw [cR _ (by omega)]; congr 1; omega
      have rw_ := stI_rg (c := c) (p := P) hT ht w
      have nv := never_met (b := P + (w : Int) - f - M) (g := some g) (n := n) (M := (n + 1) * r.length) hT rw_ (by omega) (Nat.mul_le_mul_right _ (by omega)) (fun j hj y => by
        rw [← cg] at y
        rw [← stI_add] at y
        exact k2 (w + j) (by omega) (by cases y; rfl))
      intro i
      rcases Nat.lt_or_ge i w with y | y
      · exact k2 i (by omega)
      · intro y2
        apply nv (i - w)
        rw [← cg, ← stI_add, show w + (i - w) = i by omega, y2]
  have t0 : L2.atI [D.int (n : Int), .dT es] 0 = some (.int (n : Int)) := (rfl)
  by_cases a : p < f
  · -- begun ahead
    have hb := bnd l.length l1
    let m1 := min (f - p).toNat ((n + 1) * l.length)
    have hm1 : m1 = min (f - p).toNat ((n + 1) * l.length) := rfl
    clear_value m1
    have m1I : (m1 : Int) = min (f - p) (((n : Int) + 1) * (l.length : Int)) := by
      have e : ((((n + 1) * l.length : Nat)) : Int) = ((n : Int) + 1) * (l.length : Int) := by push_cast; rfl
      rw [← e]
      generalize (n + 1) * l.length = B at *
      omega
    obtain ⟨d, k1, k2, k3, k4⟩ := met p s m1 (by omega)
    by_cases z : d ≤ m1
    · rw [if_pos z] at k4
      refine ⟨some (p + (d : Int)), ?_, ?_⟩
      · rcases k3 with k3 | k3
        · omega
        · exact ⟨d, rfl, k3, k2⟩
      · simp (disch := walk_at "dd") [F_l_due_eq, b_l_due, a, t0, ← m1I, k4, dE]
    · rw [if_neg z] at k4
      have none : ∀ i, i ≤ (f - p).toNat → ¬ stI es c p i s = g := fun i hi => by
        rcases Nat.lt_or_ge m1 (f - p).toNat with y | y
        · have cg : ∀ i, i ≤ (f - p).toNat → stI es c p i s = stI es (tell l) (p - f) i s := fun i hi => stI_congr fun j hj => by
            have hj : j < i := hj
            rw [cL (p + (j : Int)) (by omega)]; congr 1; omega
          have nv := never_met (vs := l) (b := p - f) (g := some g) (n := n) (M := m1) hT hs (by omega) (by
            have e : m1 = (n + 1) * l.length := by
              rcases Nat.le_total (f - p).toNat ((n + 1) * l.length) with q | q
              · rw [Nat.min_eq_left q] at hm1; omega
              · rw [Nat.min_eq_right q] at hm1; exact hm1
            rw [e]; exact Nat.mul_le_mul_right _ (by omega)) (fun j hj y2 => by
            rw [← cg j (by omega)] at y2
            exact k2 j (by omega) (by cases y2; rfl))
          intro y2
          apply nv i
          rw [← cg i hi, y2]
        · exact k2 i (by omega)
      have pf : p + (((f - p).toNat : Nat) : Int) = f := by omega
      obtain ⟨d2, mm, u1, u2, u3⟩ := late f (stI es c p (f - p).toNat s) (Int.le_refl _) (rg _)
      refine ⟨_, IsGoal.lift (k := (f - p).toNat) (by rw [pf]; exact u3) (fun i hi => none i (by omega)), ?_⟩
      have s1 := sa f (by omega)
      generalize stI es c p (f - p).toNat s = t at *
      rcases Nat.lt_or_ge mm d2 with y | y
      · have y2 : ¬ d2 ≤ mm := by omega
        rw [if_neg y2] at u2 ⊢
        simp (disch := walk_at "dd") [F_l_due_eq, b_l_due, a, t0, hM, ← m1I, k4, s1, ← u1, u2, dE]
      · rw [if_pos y] at u2 ⊢
        simp (disch := walk_at "dd") [F_l_due_eq, b_l_due, a, t0, hM, ← m1I, k4, s1, ← u1, u2, dE]
  · obtain ⟨d2, mm, u1, u2, u3⟩ := late p s (by omega) hs
    refine ⟨_, u3, ?_⟩
    rcases Nat.lt_or_ge mm d2 with y | y
    · have y2 : ¬ d2 ≤ mm := by omega
      rw [if_neg y2] at u2 ⊢
      simp (disch := walk_at "dd") [F_l_due_eq, b_l_due, a, t0, hM, ← u1, u2, dE]
    · rw [if_pos y] at u2 ⊢
      simp (disch := walk_at "dd") [F_l_due_eq, b_l_due, a, t0, hM, ← u1, u2, dE]

end
section
variable {Z : Zs}
theorem law_one {ns : List Int} {i : Nat} {x : RowV} {n : Nat} {es : List (List KO × D)} {TS RS LS WS : List D} (hl : ns.length ≤ 63) (h : RowOk x) (hm : x.m.length ≤ 8 ∧ x.l.length ≤ 6 ∧ x.r.length ≤ 6) (hn : 1 ≤ n ∧ n ≤ 30) (hT : TabE es (n : Int)) (hTS : L2.atI TS ((i : Int) % 2) = some (toldD x)) (hR : L2.atI RS ((i : Int) % 2) = some (rowD Z x)) (hL : L2.atI LS ((i : Int) / 2 % 2) = some (.tup [.int (n : Int), .dT es])) (hW : L2.atI WS ((i : Int) / 2 % 2) = some (wkD Z n es)) :
    ∃ δ2, (b_law_l1 Z).f [.d (scrD ns), .d (.lst TS), .d (.lst RS), .un, .d (.lst LS), .d (.lst WS), .un, .d (.int (i : Int)), .un, .un, .un, .un, .un, .un, .un] = .nx δ2 ∧ wpF [6, 7, 8, 9, 10, 11, 12, 13, 14] δ2 = [.d (scrD ns), .d (.lst TS), .d (.lst RS), .un, .d (.lst LS), .d (.lst WS), .un, .un, .un, .un, .un, .un, .un, .un, .un] := by
  have c0 := F_l_cell_v (Z := Z) (k := 1000 + 4 * (i : Int)) hl
  have c1 := F_l_cell_v (Z := Z) (k := 1001 + 4 * (i : Int)) hl
  have c2 := F_l_cell_v (Z := Z) (k := 1002 + 4 * (i : Int)) hl
  have c3 := F_l_cell_v (Z := Z) (k := 1003 + 4 * (i : Int)) hl
  have b0 := cell_pos ns (1000 + 4 * (i : Int))
  have b1 := cell_pos ns (1001 + 4 * (i : Int))
  generalize cell ns (1000 + 4 * (i : Int)) = c at *
  generalize cell ns (1001 + 4 * (i : Int)) = u at *
  generalize cell ns (1002 + 4 * (i : Int)) = v at *
  generalize cell ns (1003 + 4 * (i : Int)) = w at *
  have q1 := emod_in (c / 7) (m := 2) (by decide)
  obtain ⟨g1, hg1, _⟩ := atI_exI (fun g => 0 ≤ g) (xs := [1000000000000000000000, 1000000000000000000000000000000000000000000000000000]) (ys := [.int 1000000000000000000000, .int 1000000000000000000000000000000000000000000000000000]) (i := c / 7 % 2) rfl q1.1 (by show c / 7 % 2 < 2; omega) (by decide)
  have q2 := emod_in (c / 60) (m := 4) (by decide)
  obtain ⟨p, hp, _⟩ := atI_exI (fun _ => True) (xs := [c % 60 - 30, -(u * g1), u * g1, -(c % 100000)]) (ys := [.int (c % 60 - 30), .int (-(u * g1)), .int (u * g1), .int (-(c % 100000))]) (i := c / 60 % 4) rfl q2.1 (by show c / 60 % 4 < 4; omega) (fun _ _ => trivial)
  have q7 := emod_in v (m := (n : Int)) (by omega)
  have q8 := emod_in w (m := (n : Int)) (by omega)
  have q9 := emod_in (c / 240) (m := 8) (by decide)
  obtain ⟨g, hg, _⟩ := atI_exI (fun g => 0 ≤ g ∧ g < (n : Int)) (xs := [w % (n : Int), v % (n : Int)]) (ys := [.int (w % (n : Int)), .int (v % (n : Int))]) (i := c / 240 % 8 / 7) rfl (by omega) (by show c / 240 % 8 / 7 < 2; omega) (by
    simp only [List.mem_cons, List.not_mem_nil, or_false]
    rintro x (rfl | rfl)
    · exact q8
    · exact q7)
  obtain ⟨o1, u1, u2⟩ := F_comes_to_e (Z := Z) (p := x.f + p) (s := v % (n : Int)) (g := g) h (by omega) hT (by omega) q7 (by assumption)
  obtain ⟨o2, u3, u4⟩ := F_l_due_e (Z := Z) (p := x.f + p) (s := v % (n : Int)) (g := g) h (by omega) (by omega) (by omega) hT (by omega) q7
  have oo := u1.uniq u3
  subst oo
  have t2 : L2.atI [D.tup (vsD x.l), .tup (vsD x.m), .int x.f, .tup (vsD x.r)] 2 = some (.int x.f) := (rfl)
  have t0 : L2.atI [D.int (n : Int), .dT es] 0 = some (.int (n : Int)) := (rfl)
  have n0 : (0 : Int) < (n : Int) := by omega
  generalize wkD Z n es = W at *
  generalize rowD Z x = R at *
  refine ⟨[.d (scrD ns), .d (.lst TS), .d (.lst RS), .un, .d (.lst LS), .d (.lst WS), .d (.tup [.int (n : Int), .dT es]), .d (.int (i : Int)), .d (.int c), .d (.int (u * g1)), .d (.int (x.f + p)), .d (.int (v % (n : Int))), .d (.int g), .d (dE o1), .d (dE o1)], ?_, by simp⟩
  cases o1 with
  | none =>
    have u2 : F_comes_to Z [W, R, .int (x.f + p), .int (v % (n : Int)), .int g] = .ok (.d .non) := u2
    have u4 : F_l_due Z [.tup [.int (n : Int), .dT es], toldD x, .int (x.f + p), .int (v % (n : Int)), .int g] = .ok (.d .non) := u4
    show (b_law_l1 Z).f _ = .nx [.d (scrD ns), .d (.lst TS), .d (.lst RS), .un, .d (.lst LS), .d (.lst WS), .d (.tup [.int (n : Int), .dT es]), .d (.int (i : Int)), .d (.int c), .d (.int (u * g1)), .d (.int (x.f + p)), .d (.int (v % (n : Int))), .d (.int g), .d .non, .d .non]
    simp (disch := walk_at "dd") [b_law_l1, c0, c1, c2, c3, hTS, hR, hL, hW, hg1, hp, hg, t2, t0, n0, u2, u4, isTy_non_bool]
  | some q =>
    have u2 : F_comes_to Z [W, R, .int (x.f + p), .int (v % (n : Int)), .int g] = .ok (.d (.int q)) := u2
    have u4 : F_l_due Z [.tup [.int (n : Int), .dT es], toldD x, .int (x.f + p), .int (v % (n : Int)), .int g] = .ok (.d (.int q)) := u4
    show (b_law_l1 Z).f _ = .nx [.d (scrD ns), .d (.lst TS), .d (.lst RS), .un, .d (.lst LS), .d (.lst WS), .d (.tup [.int (n : Int), .dT es]), .d (.int (i : Int)), .d (.int c), .d (.int (u * g1)), .d (.int (x.f + p)), .d (.int (v % (n : Int))), .d (.int g), .d (.int q), .d (.int q)]
    simp (disch := walk_at "dd") [b_law_l1, c0, c1, c2, c3, hTS, hR, hL, hW, hg1, hp, hg, t2, t0, n0, u2, u4, isTy_int_bool]
theorem law_holds (Z : Zs) (ns : List Int) (hl : ns.length ≤ 63) : F_law Z [scrD ns] = .ok (.d (.bl true)) := by
  obtain ⟨x, x1, x2, hx⟩ := F_l_row_e (Z := Z) (ns := ns) (k := 0) hl
  obtain ⟨y, y1, y2, hy⟩ := F_l_row_e (Z := Z) (ns := ns) (k := 50) hl
  obtain ⟨n, es, n1, n2, n3, hn⟩ := F_l_walker_e (Z := Z) (ns := ns) (k := 100) hl
  obtain ⟨m, fs, m1, m2, m3, hm⟩ := F_l_walker_e (Z := Z) (ns := ns) (k := 400) hl
  have lp := forF_inv (g := (SG.name 7 : SG (HY Z)).f) (body := (b_law_l1 Z).f) (vs := [6, 7, 8, 9, 10, 11, 12, 13, 14]) (ys := rg 0 (min 63 (ns.length : Int) + 4).toNat) (fun _ => [.d (scrD ns), .d (.lst [toldD x, toldD y]), .d (.lst [rowD Z x, rowD Z y]), .un, .d (.lst [.tup [.int (n : Int), .dT es], .tup [.int (m : Int), .dT fs]]), .d (.lst [wkD Z n es, wkD Z m fs]), .un, .un, .un, .un, .un, .un, .un, .un, .un]) (fun i z hz => by
    obtain ⟨hi, rfl⟩ := rg_get hz
    have key : ∃ δ2, (b_law_l1 Z).f [.d (scrD ns), .d (.lst [toldD x, toldD y]), .d (.lst [rowD Z x, rowD Z y]), .un, .d (.lst [.tup [.int (n : Int), .dT es], .tup [.int (m : Int), .dT fs]]), .d (.lst [wkD Z n es, wkD Z m fs]), .un, .d (.int (i : Int)), .un, .un, .un, .un, .un, .un, .un] = .nx δ2 ∧ wpF [6, 7, 8, 9, 10, 11, 12, 13, 14] δ2 = [.d (scrD ns), .d (.lst [toldD x, toldD y]), .d (.lst [rowD Z x, rowD Z y]), .un, .d (.lst [.tup [.int (n : Int), .dT es], .tup [.int (m : Int), .dT fs]]), .d (.lst [wkD Z n es, wkD Z m fs]), .un, .un, .un, .un, .un, .un, .un, .un, .un] := by
      rcases (show (i : Int) % 2 = 0 ∨ (i : Int) % 2 = 1 by omega) with a | a <;> rcases (show (i : Int) / 2 % 2 = 0 ∨ (i : Int) / 2 % 2 = 1 by omega) with b | b
      · exact law_one hl x1 x2 ⟨n1, n2⟩ n3 (by rw [a]; rfl) (by rw [a]; rfl) (by rw [b]; rfl) (by rw [b]; rfl)
      · exact law_one hl x1 x2 ⟨m1, m2⟩ m3 (by rw [a]; rfl) (by rw [a]; rfl) (by rw [b]; rfl) (by rw [b]; rfl)
      · exact law_one hl y1 y2 ⟨n1, n2⟩ n3 (by rw [a]; rfl) (by rw [a]; rfl) (by rw [b]; rfl) (by rw [b]; rfl)
      · exact law_one hl y1 y2 ⟨m1, m2⟩ m3 (by rw [a]; rfl) (by rw [a]; rfl) (by rw [b]; rfl) (by rw [b]; rfl)
    obtain ⟨δ2, k1, k2⟩ := key
    exact ⟨[.d (scrD ns), .d (.lst [toldD x, toldD y]), .d (.lst [rowD Z x, rowD Z y]), .un, .d (.lst [.tup [.int (n : Int), .dT es], .tup [.int (m : Int), .dT fs]]), .d (.lst [wkD Z n es, wkD Z m fs]), .un, .d (.int (i : Int)), .un, .un, .un, .un, .un, .un, .un], δ2, by simp, .inl k1, k2⟩)
  have mk : ∀ (w : RowV) (S0 S1 S2 S4 S5 S6 S7 S8 S9 S10 S11 S12 S13 S14 : S), RowOk w → w.m.length ≤ 8 → lcS (SG.name 3) (ST.yes : ST (HY Z)) (.make Z.Row (F_Row_init Z) (.cons (.op oIx (.var 3) (.int 0)) (.cons (.op oIx (.var 3) (.int 1)) (.cons (.op oIx (.var 3) (.int 2)) (.cons (.op oIx (.var 3) (.int 3)) .nil))))) [S0, S1, S2, .un, S4, S5, S6, S7, S8, S9, S10, S11, S12, S13, S14] (toldD w) = .ok (some (rowD Z w)) := fun w S0 S1 S2 S4 S5 S6 S7 S8 S9 S10 S11 S12 S13 S14 w1 w2 => by
    have i := F_Row_init_v (Z := Z) w1 (by omega) (.inl rfl) (.inl rfl) (.inl rfl)
    have u0 : L2.atI [D.tup (vsD w.l), .tup (vsD w.m), .int w.f, .tup (vsD w.r)] 0 = some (.tup (vsD w.l)) := (rfl)
    have u1 : L2.atI [D.tup (vsD w.l), .tup (vsD w.m), .int w.f, .tup (vsD w.r)] 1 = some (.tup (vsD w.m)) := (rfl)
    have u2 : L2.atI [D.tup (vsD w.l), .tup (vsD w.m), .int w.f, .tup (vsD w.r)] 2 = some (.int w.f) := (rfl)
    have u3 : L2.atI [D.tup (vsD w.l), .tup (vsD w.m), .int w.f, .tup (vsD w.r)] 3 = some (.tup (vsD w.r)) := (rfl)
    simp (disch := walk_at "dd") [lcS, u0, u1, u2, u3, i]
  have mkW : ∀ (k : Nat) (gs : List (List KO × D)) (S0 S1 S2 S3 S4 S5 S7 S8 S9 S10 S11 S12 S13 S14 : S), 1 ≤ k → k ≤ 30 → TabE gs (k : Int) → lcS (SG.name 6) (ST.yes : ST (HY Z)) (.make Z.Walker (F_Walker_init Z) (.cons (.op oIx (.var 6) (.int 0)) (.cons (.op oIx (.var 6) (.int 1)) .nil))) [S0, S1, S2, S3, S4, S5, .un, S7, S8, S9, S10, S11, S12, S13, S14] (.tup [.int (k : Int), .dT gs]) = .ok (some (wkD Z k gs)) := fun k gs S0 S1 S2 S3 S4 S5 S7 S8 S9 S10 S11 S12 S13 S14 k1 k2 k3 => by
    have i := F_Walker_init_v (Z := Z) (n := (k : Int)) k3 ⟨by omega, by omega⟩ (.inl rfl)
    have u0 : L2.atI [D.int (k : Int), .dT gs] 0 = some (.int (k : Int)) := (rfl)
    have u1 : L2.atI [D.int (k : Int), .dT gs] 1 = some (.dT gs) := (rfl)
    simp (disch := walk_at "dd") [lcS, u0, u1, i]
  have tl : ∀ (w : RowV) (S0 S1 S2 S4 S5 S6 S7 S8 S9 S10 S11 S12 S13 S14 : S), lcS (SG.name 3) (ST.yes : ST (HY Z)) (.meth Z.Row "told" (F_Row_told Z) (.var 3) .nil) [S0, S1, S2, .un, S4, S5, S6, S7, S8, S9, S10, S11, S12, S13, S14] (rowD Z w) = .ok (some (toldD w)) := fun w S0 S1 S2 S4 S5 S6 S7 S8 S9 S10 S11 S12 S13 S14 => by
    have to := F_Row_told_v (Z := Z) (x := w)
    have ofT : ofC Z.Row "told" (rowD Z w) = true := by unfold rowD; simp [List.lookup]
    generalize toldD w = T at *
    generalize rowD Z w = R at *
    simp (disch := walk_at "dd") [lcS, to, ofT]
  have two : ∀ {st : D → M (Option D)} {a b c d : D}, st a = .ok (some c) → st b = .ok (some d) → lcF st [a, b] = .ok [c, d] := fun h1 h2 => by simp [lcF, h1, h2]
  have l1 := fun (S0 S1 S2 S4 S5 S6 S7 S8 S9 S10 S11 S12 S13 S14 : S) => two (mk x S0 S1 S2 S4 S5 S6 S7 S8 S9 S10 S11 S12 S13 S14 x1 (by omega)) (mk y S0 S1 S2 S4 S5 S6 S7 S8 S9 S10 S11 S12 S13 S14 y1 (by omega))
  have l2 := fun (S0 S1 S2 S3 S4 S5 S7 S8 S9 S10 S11 S12 S13 S14 : S) => two (mkW n es S0 S1 S2 S3 S4 S5 S7 S8 S9 S10 S11 S12 S13 S14 n1 n2 n3) (mkW m fs S0 S1 S2 S3 S4 S5 S7 S8 S9 S10 S11 S12 S13 S14 m1 m2 m3)
  have l3 := fun (S0 S1 S2 S4 S5 S6 S7 S8 S9 S10 S11 S12 S13 S14 : S) => two (tl x S0 S1 S2 S4 S5 S6 S7 S8 S9 S10 S11 S12 S13 S14) (tl y S0 S1 S2 S4 S5 S6 S7 S8 S9 S10 S11 S12 S13 S14)
  have eq := eqF2_tolds [x, y]
  rw [List.map_cons, List.map_cons, List.map_nil] at eq
  clear mk mkW tl two
  generalize toldD x = TX at *
  generalize toldD y = TY at *
  generalize rowD Z x = RX at *
  generalize rowD Z y = RY at *
  generalize wkD Z n es = WA at *
  generalize wkD Z m fs = WB at *
  generalize D.tup [.int (n : Int), .dT es] = LA at *
  generalize D.tup [.int (m : Int), .dT fs] = LB at *
  have h1 : hide [.d (scrD ns), .d (.lst [TX, TY]), .un, .un, .un, .un, .un, .un, .un, .un, .un, .un, .un, .un, .un] [3] = [.d (scrD ns), .d (.lst [TX, TY]), .un, .un, .un, .un, .un, .un, .un, .un, .un, .un, .un, .un, .un] := rfl
  have h2 : hide [.d (scrD ns), .d (.lst [TX, TY]), .d (.lst [RX, RY]), .un, .d (.lst [LA, LB]), .un, .un, .un, .un, .un, .un, .un, .un, .un, .un] [6] = [.d (scrD ns), .d (.lst [TX, TY]), .d (.lst [RX, RY]), .un, .d (.lst [LA, LB]), .un, .un, .un, .un, .un, .un, .un, .un, .un, .un] := rfl
  have h3 : hide [.d (scrD ns), .d (.lst [TX, TY]), .d (.lst [RX, RY]), .un, .d (.lst [LA, LB]), .d (.lst [WA, WB]), .un, .un, .un, .un, .un, .un, .un, .un, .un] [3] = [.d (scrD ns), .d (.lst [TX, TY]), .d (.lst [RX, RY]), .un, .d (.lst [LA, LB]), .d (.lst [WA, WB]), .un, .un, .un, .un, .un, .un, .un, .un, .un] := rfl
  simp (disch := walk_at "dd") [F_law_eq, b_law, hx, hy, hn, hm, h1, h2, h3, l1, l2, l3, lp, eq]

end
end Far
namespace Far
open PySem L2 PyProof.Rows
def topS (i : Nat) : Stmt := PySem.Challenge.pw_farrows_k72_whole_comes_to.main.body.getD i (.Pass ⟨0, 0, 0, 0⟩)
abbrev s_is_place : Stmt := topS 8
theorem sc_is_place : FnScope N_is_place ["thing"] (defScope s_is_place) := ⟨rfl, rfl, rfl, by decide +kernel, rfl, by decide +kernel, by decide +kernel⟩
abbrev s_is_value : Stmt := topS 11
theorem sc_is_value : FnScope N_is_value ["thing"] (defScope s_is_value) := ⟨rfl, rfl, rfl, by decide +kernel, rfl, by decide +kernel, by decide +kernel⟩
abbrev s_are_values : Stmt := topS 12
theorem sc_are_values : FnScope N_are_values ["things", "fewest"] (defScope s_are_values) := ⟨rfl, rfl, rfl, by decide +kernel, rfl, by decide +kernel, by decide +kernel⟩
abbrev s_need_place : Stmt := topS 13
theorem sc_need_place : FnScope N_need_place ["thing"] (defScope s_need_place) := ⟨rfl, rfl, rfl, by decide +kernel, rfl, by decide +kernel, by decide +kernel⟩
abbrev s_Row_init : Stmt := inClass (topS 15) 0
theorem sc_Row_init : FnScope N_Row_init ["self", "left", "middle", "first", "right"] (defScope s_Row_init) := ⟨rfl, rfl, rfl, by decide +kernel, rfl, by decide +kernel, by decide +kernel⟩
abbrev s_Row_told : Stmt := inClass (topS 15) 2
theorem sc_Row_told : FnScope N_Row_told ["self"] (defScope s_Row_told) := ⟨rfl, rfl, rfl, by decide +kernel, rfl, by decide +kernel, by decide +kernel⟩
abbrev s_is_between : Stmt := topS 18
theorem sc_is_between : FnScope N_is_between ["thing", "least", "most"] (defScope s_is_between) := ⟨rfl, rfl, rfl, by decide +kernel, rfl, by decide +kernel, by decide +kernel⟩
abbrev s_is_pair : Stmt := topS 19
theorem sc_is_pair : FnScope N_is_pair ["thing", "many"] (defScope s_is_pair) := ⟨rfl, rfl, rfl, by decide +kernel, rfl, by decide +kernel, by decide +kernel⟩
abbrev s_is_table : Stmt := topS 20
theorem sc_is_table : FnScope N_is_table ["thing", "many"] (defScope s_is_table) := ⟨rfl, rfl, rfl, by decide +kernel, rfl, by decide +kernel, by decide +kernel⟩
abbrev s_Walker_init : Stmt := inClass (topS 21) 0
theorem sc_Walker_init : FnScope N_Walker_init ["self", "states", "table"] (defScope s_Walker_init) := ⟨rfl, rfl, rfl, by decide +kernel, rfl, by decide +kernel, by decide +kernel⟩
abbrev s_Walker_step : Stmt := inClass (topS 21) 1
theorem sc_Walker_step : FnScope N_Walker_step ["self", "state", "value"] (defScope s_Walker_step) := ⟨rfl, rfl, rfl, by decide +kernel, rfl, by decide +kernel, by decide +kernel⟩
abbrev s_need_state : Stmt := topS 23
theorem sc_need_state : FnScope N_need_state ["walker", "thing"] (defScope s_need_state) := ⟨rfl, rfl, rfl, by decide +kernel, rfl, by decide +kernel, by decide +kernel⟩
abbrev s_stretches : Stmt := topS 24
theorem sc_stretches : FnScope N_stretches ["row", "place", "behind"] (defScope s_stretches) := ⟨rfl, rfl, rfl, by decide +kernel, rfl, by decide +kernel, by decide +kernel⟩
abbrev s_Going_init : Stmt := inClass (topS 25) 0
theorem sc_Going_init : FnScope N_Going_init ["self", "walker", "state", "goal"] (defScope s_Going_init) := ⟨rfl, rfl, rfl, by decide +kernel, rfl, by decide +kernel, by decide +kernel⟩
abbrev s_Going_is_there : Stmt := inClass (topS 25) 1
theorem sc_Going_is_there : FnScope N_Going_is_there ["self"] (defScope s_Going_is_there) := ⟨rfl, rfl, rfl, by decide +kernel, rfl, by decide +kernel, by decide +kernel⟩
abbrev s_Going_pass_cell : Stmt := inClass (topS 25) 2
theorem sc_Going_pass_cell : FnScope N_Going_pass_cell ["self", "value"] (defScope s_Going_pass_cell) := ⟨rfl, rfl, rfl, by decide +kernel, rfl, by decide +kernel, by decide +kernel⟩
abbrev s_Going_go : Stmt := inClass (topS 25) 3
theorem sc_Going_go : FnScope N_Going_go ["self", "stretch"] (defScope s_Going_go) := ⟨rfl, rfl, rfl, by decide +kernel, rfl, by decide +kernel, by decide +kernel⟩
abbrev s_comes_to : Stmt := topS 26
theorem sc_comes_to : FnScope N_comes_to ["walker", "row", "place", "state", "goal"] (defScope s_comes_to) := ⟨rfl, rfl, rfl, by decide +kernel, rfl, by decide +kernel, by decide +kernel⟩
abbrev s_l_cell : Stmt := topS 28
theorem sc_l_cell : FnScope N_l_cell ["_law_script", "_law_k"] (defScope s_l_cell) := ⟨rfl, rfl, rfl, by decide +kernel, rfl, by decide +kernel, by decide +kernel⟩
abbrev s_l_value : Stmt := topS 29
theorem sc_l_value : FnScope N_l_value ["_law_cell_here"] (defScope s_l_value) := ⟨rfl, rfl, rfl, by decide +kernel, rfl, by decide +kernel, by decide +kernel⟩
abbrev s_l_values : Stmt := topS 30
theorem sc_l_values : FnScope N_l_values ["_law_script", "_law_k", "_law_many"] (defScope s_l_values) := ⟨rfl, rfl, rfl, by decide +kernel, rfl, by decide +kernel, by decide +kernel⟩
abbrev s_l_row : Stmt := topS 31
theorem sc_l_row : FnScope N_l_row ["_law_script", "_law_k"] (defScope s_l_row) := ⟨rfl, rfl, rfl, by decide +kernel, rfl, by decide +kernel, by decide +kernel⟩
abbrev s_l_value_at : Stmt := topS 32
theorem sc_l_value_at : FnScope N_l_value_at ["_law_drawn", "_law_place"] (defScope s_l_value_at) := ⟨rfl, rfl, rfl, by decide +kernel, rfl, by decide +kernel, by decide +kernel⟩
abbrev s_l_walker : Stmt := topS 33
theorem sc_l_walker : FnScope N_l_walker ["_law_script", "_law_k"] (defScope s_l_walker) := ⟨rfl, rfl, rfl, by decide +kernel, rfl, by decide +kernel, by decide +kernel⟩
abbrev s_l_steps : Stmt := topS 34
theorem sc_l_steps : FnScope N_l_steps ["_law_walker_here", "_law_state", "_law_values_here"] (defScope s_l_steps) := ⟨rfl, rfl, rfl, by decide +kernel, rfl, by decide +kernel, by decide +kernel⟩
abbrev s_l_round : Stmt := topS 35
theorem sc_l_round : FnScope N_l_round ["_law_walker_here", "_law_ring", "_law_many", "_law_state"] (defScope s_l_round) := ⟨rfl, rfl, rfl, by decide +kernel, rfl, by decide +kernel, by decide +kernel⟩
abbrev s_l_along : Stmt := topS 36
theorem sc_l_along : FnScope N_l_along ["_law_walker_here", "_law_ring", "_law_begin", "_law_many", "_law_state"] (defScope s_l_along) := ⟨rfl, rfl, rfl, by decide +kernel, rfl, by decide +kernel, by decide +kernel⟩
abbrev s_l_state_at : Stmt := topS 37
theorem sc_l_state_at : FnScope N_l_state_at ["_law_walker_here", "_law_drawn", "_law_place", "_law_state", "_law_behind"] (defScope s_l_state_at) := ⟨rfl, rfl, rfl, by decide +kernel, rfl, by decide +kernel, by decide +kernel⟩
abbrev s_l_met : Stmt := topS 38
theorem sc_l_met : FnScope N_l_met ["_law_walker_here", "_law_drawn", "_law_place", "_law_state", "_law_goal", "_law_many"] (defScope s_l_met) := ⟨rfl, rfl, rfl, by decide +kernel, rfl, by decide +kernel, by decide +kernel⟩
abbrev s_l_due : Stmt := topS 39
theorem sc_l_due : FnScope N_l_due ["_law_walker_here", "_law_drawn", "_law_place", "_law_state", "_law_goal"] (defScope s_l_due) := ⟨rfl, rfl, rfl, by decide +kernel, rfl, by decide +kernel, by decide +kernel⟩
abbrev s_law : Stmt := topS 40
theorem sc_law : FnScope N_law ["_law_script"] (defScope s_law) := ⟨rfl, rfl, rfl, by decide +kernel, rfl, by decide +kernel, by decide +kernel⟩
structure Txt (K : PySem.W.Frag) (mg : Str → Option Value) (Z : Zs) where
  a_is_place : Addr
  d_is_place : FuncData
  F_is_place : Fun K "is_place" "is_place" s_is_place a_is_place d_is_place
  b_is_place : Binds K d_is_place ["thing"] []
  g_is_place : mg "is_place" = some (.ref a_is_place)
  a_is_value : Addr
  d_is_value : FuncData
  F_is_value : Fun K "is_value" "is_value" s_is_value a_is_value d_is_value
  b_is_value : Binds K d_is_value ["thing"] []
  g_is_value : mg "is_value" = some (.ref a_is_value)
  a_are_values : Addr
  d_are_values : FuncData
  F_are_values : Fun K "are_values" "are_values" s_are_values a_are_values d_are_values
  b_are_values : Binds K d_are_values ["things", "fewest"] []
  g_are_values : mg "are_values" = some (.ref a_are_values)
  a_need_place : Addr
  d_need_place : FuncData
  F_need_place : Fun K "need_place" "need_place" s_need_place a_need_place d_need_place
  b_need_place : Binds K d_need_place ["thing"] []
  g_need_place : mg "need_place" = some (.ref a_need_place)
  a_Row_init : Addr
  d_Row_init : FuncData
  F_Row_init : Fun K "__init__" "Row.__init__" s_Row_init a_Row_init d_Row_init
  b_Row_init : Binds K d_Row_init ["self", "left", "middle", "first", "right"] []
  a_Row_told : Addr
  d_Row_told : FuncData
  F_Row_told : Fun K "told" "Row.told" s_Row_told a_Row_told d_Row_told
  b_Row_told : Binds K d_Row_told ["self"] []
  a_is_between : Addr
  d_is_between : FuncData
  F_is_between : Fun K "is_between" "is_between" s_is_between a_is_between d_is_between
  b_is_between : Binds K d_is_between ["thing", "least", "most"] []
  g_is_between : mg "is_between" = some (.ref a_is_between)
  a_is_pair : Addr
  d_is_pair : FuncData
  F_is_pair : Fun K "is_pair" "is_pair" s_is_pair a_is_pair d_is_pair
  b_is_pair : Binds K d_is_pair ["thing", "many"] []
  g_is_pair : mg "is_pair" = some (.ref a_is_pair)
  a_is_table : Addr
  d_is_table : FuncData
  F_is_table : Fun K "is_table" "is_table" s_is_table a_is_table d_is_table
  b_is_table : Binds K d_is_table ["thing", "many"] []
  g_is_table : mg "is_table" = some (.ref a_is_table)
  a_Walker_init : Addr
  d_Walker_init : FuncData
  F_Walker_init : Fun K "__init__" "Walker.__init__" s_Walker_init a_Walker_init d_Walker_init
  b_Walker_init : Binds K d_Walker_init ["self", "states", "table"] []
  a_Walker_step : Addr
  d_Walker_step : FuncData
  F_Walker_step : Fun K "step" "Walker.step" s_Walker_step a_Walker_step d_Walker_step
  b_Walker_step : Binds K d_Walker_step ["self", "state", "value"] []
  a_need_state : Addr
  d_need_state : FuncData
  F_need_state : Fun K "need_state" "need_state" s_need_state a_need_state d_need_state
  b_need_state : Binds K d_need_state ["walker", "thing"] []
  g_need_state : mg "need_state" = some (.ref a_need_state)
  a_stretches : Addr
  d_stretches : FuncData
  F_stretches : Fun K "stretches" "stretches" s_stretches a_stretches d_stretches
  b_stretches : Binds K d_stretches ["row", "place", "behind"] []
  g_stretches : mg "stretches" = some (.ref a_stretches)
  a_Going_init : Addr
  d_Going_init : FuncData
  F_Going_init : Fun K "__init__" "Going.__init__" s_Going_init a_Going_init d_Going_init
  b_Going_init : Binds K d_Going_init ["self", "walker", "state", "goal"] []
  a_Going_is_there : Addr
  d_Going_is_there : FuncData
  F_Going_is_there : Fun K "is_there" "Going.is_there" s_Going_is_there a_Going_is_there d_Going_is_there
  b_Going_is_there : Binds K d_Going_is_there ["self"] []
  a_Going_pass_cell : Addr
  d_Going_pass_cell : FuncData
  F_Going_pass_cell : Fun K "pass_cell" "Going.pass_cell" s_Going_pass_cell a_Going_pass_cell d_Going_pass_cell
  b_Going_pass_cell : Binds K d_Going_pass_cell ["self", "value"] []
  a_Going_go : Addr
  d_Going_go : FuncData
  F_Going_go : Fun K "go" "Going.go" s_Going_go a_Going_go d_Going_go
  b_Going_go : Binds K d_Going_go ["self", "stretch"] []
  a_comes_to : Addr
  d_comes_to : FuncData
  F_comes_to : Fun K "comes_to" "comes_to" s_comes_to a_comes_to d_comes_to
  b_comes_to : Binds K d_comes_to ["walker", "row", "place", "state", "goal"] []
  g_comes_to : mg "comes_to" = some (.ref a_comes_to)
  a_l_cell : Addr
  d_l_cell : FuncData
  F_l_cell : Fun K "_law_cell" "_law_cell" s_l_cell a_l_cell d_l_cell
  b_l_cell : Binds K d_l_cell ["_law_script", "_law_k"] []
  g_l_cell : mg "_law_cell" = some (.ref a_l_cell)
  a_l_value : Addr
  d_l_value : FuncData
  F_l_value : Fun K "_law_value" "_law_value" s_l_value a_l_value d_l_value
  b_l_value : Binds K d_l_value ["_law_cell_here"] []
  g_l_value : mg "_law_value" = some (.ref a_l_value)
  a_l_values : Addr
  d_l_values : FuncData
  F_l_values : Fun K "_law_values" "_law_values" s_l_values a_l_values d_l_values
  b_l_values : Binds K d_l_values ["_law_script", "_law_k", "_law_many"] []
  g_l_values : mg "_law_values" = some (.ref a_l_values)
  a_l_row : Addr
  d_l_row : FuncData
  F_l_row : Fun K "_law_row" "_law_row" s_l_row a_l_row d_l_row
  b_l_row : Binds K d_l_row ["_law_script", "_law_k"] []
  g_l_row : mg "_law_row" = some (.ref a_l_row)
  a_l_value_at : Addr
  d_l_value_at : FuncData
  F_l_value_at : Fun K "_law_value_at" "_law_value_at" s_l_value_at a_l_value_at d_l_value_at
  b_l_value_at : Binds K d_l_value_at ["_law_drawn", "_law_place"] []
  g_l_value_at : mg "_law_value_at" = some (.ref a_l_value_at)
  a_l_walker : Addr
  d_l_walker : FuncData
  F_l_walker : Fun K "_law_walker" "_law_walker" s_l_walker a_l_walker d_l_walker
  b_l_walker : Binds K d_l_walker ["_law_script", "_law_k"] []
  g_l_walker : mg "_law_walker" = some (.ref a_l_walker)
  a_l_steps : Addr
  d_l_steps : FuncData
  F_l_steps : Fun K "_law_steps" "_law_steps" s_l_steps a_l_steps d_l_steps
  b_l_steps : Binds K d_l_steps ["_law_walker_here", "_law_state", "_law_values_here"] []
  g_l_steps : mg "_law_steps" = some (.ref a_l_steps)
  a_l_round : Addr
  d_l_round : FuncData
  F_l_round : Fun K "_law_round" "_law_round" s_l_round a_l_round d_l_round
  b_l_round : Binds K d_l_round ["_law_walker_here", "_law_ring", "_law_many", "_law_state"] []
  g_l_round : mg "_law_round" = some (.ref a_l_round)
  a_l_along : Addr
  d_l_along : FuncData
  F_l_along : Fun K "_law_along" "_law_along" s_l_along a_l_along d_l_along
  b_l_along : Binds K d_l_along ["_law_walker_here", "_law_ring", "_law_begin", "_law_many", "_law_state"] []
  g_l_along : mg "_law_along" = some (.ref a_l_along)
  a_l_state_at : Addr
  d_l_state_at : FuncData
  F_l_state_at : Fun K "_law_state_at" "_law_state_at" s_l_state_at a_l_state_at d_l_state_at
  b_l_state_at : Binds K d_l_state_at ["_law_walker_here", "_law_drawn", "_law_place", "_law_state", "_law_behind"] []
  g_l_state_at : mg "_law_state_at" = some (.ref a_l_state_at)
  a_l_met : Addr
  d_l_met : FuncData
  F_l_met : Fun K "_law_met" "_law_met" s_l_met a_l_met d_l_met
  b_l_met : Binds K d_l_met ["_law_walker_here", "_law_drawn", "_law_place", "_law_state", "_law_goal", "_law_many"] []
  g_l_met : mg "_law_met" = some (.ref a_l_met)
  a_l_due : Addr
  d_l_due : FuncData
  F_l_due : Fun K "_law_due" "_law_due" s_l_due a_l_due d_l_due
  b_l_due : Binds K d_l_due ["_law_walker_here", "_law_drawn", "_law_place", "_law_state", "_law_goal"] []
  g_l_due : mg "_law_due" = some (.ref a_l_due)
  a_law : Addr
  d_law : FuncData
  F_law : Fun K "law" "law" s_law a_law d_law
  b_law : Binds K d_law ["_law_script"] []
  g_law : mg "law" = some (.ref a_law)
  n_all : mg "all" = none
  n_bool : mg "bool" = none
  n_dict : mg "dict" = none
  n_int : mg "int" = none
  n_isinstance : mg "isinstance" = none
  n_len : mg "len" = none
  n_list : mg "list" = none
  n_max : mg "max" = none
  n_min : mg "min" = none
  n_range : mg "range" = none
  n_tuple : mg "tuple" = none
  t_MOST_STATES : Tok
  g_MOST_STATES : mg "MOST_STATES" = some (.int 30 t_MOST_STATES)
  t_MOST_VALUES : Tok
  g_MOST_VALUES : mg "MOST_VALUES" = some (.int 4000 t_MOST_VALUES)
  g_FarError : mg "FarError" = some (.ref Z.FarError)
  g_NoPlace : mg "NoPlace" = some (.ref Z.NoPlace)
  g_NoRow : mg "NoRow" = some (.ref Z.NoRow)
  g_NoWalker : mg "NoWalker" = some (.ref Z.NoWalker)
  g_NoState : mg "NoState" = some (.ref Z.NoState)
  g_Row : mg "Row" = some (.ref Z.Row)
  g_Walker : mg "Walker" = some (.ref Z.Walker)
  g_Going : mg "Going" = some (.ref Z.Going)
  xi_NoPlace : PySem.W.excIn K Z.NoPlace PySem.HandSPX.veTail "ValueError.__new__" = true
  kp_NoPlace : PySem.W.keepIn K (.ref Z.NoPlace) = true
  xb_NoPlace : PySem.W.subIn K (.ref Z.NoPlace) (.type "BaseException") = some true
  ty_NoPlace : PySem.W.typeIn K (.ref Z.NoPlace) = some (.type "type")
  xi_NoRow : PySem.W.excIn K Z.NoRow PySem.HandSPX.veTail "ValueError.__new__" = true
  kp_NoRow : PySem.W.keepIn K (.ref Z.NoRow) = true
  xb_NoRow : PySem.W.subIn K (.ref Z.NoRow) (.type "BaseException") = some true
  ty_NoRow : PySem.W.typeIn K (.ref Z.NoRow) = some (.type "type")
  xi_NoState : PySem.W.excIn K Z.NoState PySem.HandSPX.veTail "ValueError.__new__" = true
  kp_NoState : PySem.W.keepIn K (.ref Z.NoState) = true
  xb_NoState : PySem.W.subIn K (.ref Z.NoState) (.type "BaseException") = some true
  ty_NoState : PySem.W.typeIn K (.ref Z.NoState) = some (.type "type")
  xi_NoWalker : PySem.W.excIn K Z.NoWalker PySem.HandSPX.veTail "ValueError.__new__" = true
  kp_NoWalker : PySem.W.keepIn K (.ref Z.NoWalker) = true
  xb_NoWalker : PySem.W.subIn K (.ref Z.NoWalker) (.type "BaseException") = some true
  ty_NoWalker : PySem.W.typeIn K (.ref Z.NoWalker) = some (.type "type")
  mk_Going : Mk K Z.Going a_Going_init
  mk_Row : Mk K Z.Row a_Row_init
  mk_Walker : Mk K Z.Walker a_Walker_init
  me_Going_go : Meth K Z.Going "go" a_Going_go
  me_Going_is_there : Meth K Z.Going "is_there" a_Going_is_there
  me_Going_pass_cell : Meth K Z.Going "pass_cell" a_Going_pass_cell
  me_Row_told : Meth K Z.Row "told" a_Row_told
  me_Walker_step : Meth K Z.Walker "step" a_Walker_step
  zf : ZF K Z
section
variable {P : Program} {w : World} {K : PySem.W.Frag} {mg : Str → Option Value} {base : Heap} {Z : Zs}
theorem ok_is_place (T : Txt K mg Z) : FnOk P w K mg base CX0 1 T.a_is_place T.d_is_place ["thing"] (spD K (RF (F_is_place Z))) :=
  ok_def (t := t_is_place K Z) T.F_is_place sc_is_place hl_run (fun cdv A outer s H E hr =>
    (pss_one (ps_ret (pe_andT (pe_callB call_isU (by rfl) T.n_isinstance (by decide +kernel) (pa_cons (pv 0) (pa_cons (pe_bltn (v := .ty "int") (by rfl) T.n_int (by decide +kernel) rfl) pa_nil))) (pe_one (pe_notT (pe_callB call_isU (by rfl) T.n_isinstance (by decide +kernel) (pa_cons (pv 0) (pa_cons (pe_bltn (v := .ty "bool") (by rfl) T.n_bool (by decide +kernel) rfl) pa_nil))))))))) (fun E xs out h => (rd_is_place K Z E) ▸ sd_run (Hy := HY Z) T.zf h)
theorem ok_is_value (T : Txt K mg Z) : FnOk P w K mg base CX0 2 T.a_is_value T.d_is_value ["thing"] (spD K (RF (F_is_value Z))) :=
  ok_def (t := t_is_value K Z) T.F_is_value sc_is_value hl_run (fun cdv A outer s H E hr =>
    (pss_one (ps_ret (pe_orT (pe_cmpR op_isN1 (pv 0) pe_non (nomark _)) (pe_one (pe_call (ok_is_place T) (hr.mono (by omega)) (by rfl) T.g_is_place T.F_is_place.kp T.b_is_place .nil pass0 (pa_cons (pv 0) pa_nil))))))) (fun E xs out h => (rd_is_value K Z E) ▸ sd_run (Hy := HY Z) T.zf h)
theorem ok_are_values (T : Txt K mg Z) : FnOk P w K mg base CX0 3 T.a_are_values T.d_are_values ["things", "fewest"] (spD K (RF (F_are_values Z))) :=
  ok_def (t := t_are_values K Z) T.F_are_values sc_are_values hl_run (fun cdv A outer s H E hr =>
    (pss_cons (ps_if (PW.pt (pw_or (pt_not (pt_truth (pe_callB call_isU (by rfl) T.n_isinstance (by decide +kernel) (pa_cons (pv 0) (pa_cons (pe_tupP (pa_cons (pe_bltn (v := .ty "tuple") (by rfl) T.n_tuple (by decide +kernel) rfl) (pa_cons (pe_bltn (v := .ty "list") (by rfl) T.n_list (by decide +kernel) rfl) pa_nil))) pa_nil))) (by intro _; rfl))) (pw_or1 (pt_not (pt_chain op_le op_le (pv 1) (pe_callB call_len (by rfl) T.n_len (by decide +kernel) (pa_cons (pv 0) pa_nil)) (pe_glob (v := .int 4000) (by rfl) T.g_MOST_VALUES ⟨_, rfl⟩))))))
    (pss_one (ps_ret pe_bl)) pss_nil)
    (pss_one (ps_ret (pe_callB (cr_all rfl) (by rfl) T.n_all (by decide +kernel) (pa_cons (pe_lc (own := [("thing", 2)]) (by rfl) sc_are_values.nd (pi_seq (pv 0)) (blkOk_by (own := [("thing", 2)]) (N := N_are_values) (sc := defScope s_are_values) (by decide +kernel)) (fun _ _ _ _ _ => (pg_name (i := 2) sc_are_values.nd rfl (by first | exact Or.inl rfl | exact Or.inr rfl))) (fun _ _ _ _ _ => pts_nil) (fun _ _ _ _ _ => (pe_call (ok_is_value T) (hr.mono (by omega)) (by rfl) T.g_is_value T.F_is_value.kp T.b_is_value .nil pass0 (pa_cons (pv 2) pa_nil)))) pa_nil)))))) (fun E xs out h => (rd_are_values K Z E) ▸ sd_run (Hy := HY Z) T.zf h)
theorem ok_need_place (T : Txt K mg Z) : FnOk P w K mg base (L2.CX P w) 2 T.a_need_place T.d_need_place ["thing"] (spD K (RF (F_need_place Z))) :=
  ok_defX (t := t_need_place K Z) T.F_need_place sc_need_place hl_run (fun cdv A outer s H E hr =>
    (pss_one (ps_if (pt_not (pt_truth (pe_call (ok_is_place T) (hr.mono (by omega)) (by rfl) T.g_is_place T.F_is_place.kp T.b_is_place .nil pass0 (pa_cons (pv 0) pa_nil)) (by intro _; rfl)))
    (pss_one (ps_raise rfl (takes_of rfl rfl rfl rfl) (pmk_own PySem.F.excBase_ValueError T.xi_NoPlace T.g_NoPlace T.kp_NoPlace (raises_own T.xb_NoPlace T.ty_NoPlace) (by exact rfl)))) pss_nil))) (fun E xs out h => (rd_need_place K Z E) ▸ sd_run (Hy := HY Z) T.zf h)
theorem ok_Row_init (T : Txt K mg Z) : FnOk P w K mg base (L2.CX P w) 4 T.a_Row_init T.d_Row_init ["self", "left", "middle", "first", "right"] (spI K Z.Row (RI Z.Row (F_Row_init Z))) :=
  ok_initX (t := t_Row_init K Z) T.F_Row_init sc_Row_init hl_runI (by decide) (fun cdv A outer s H E hr =>
    (pss_cons (ps_if (PW.pt (pw_or (pt_not (pt_truth (pe_call (ok_are_values T) (hr.mono (by omega)) (by rfl) T.g_are_values T.F_are_values.kp T.b_are_values .nil pass0 (pa_cons (pv 1) (pa_cons pe_int pa_nil))) (by intro _; rfl))) (pw_or (pt_not (pt_truth (pe_call (ok_are_values T) (hr.mono (by omega)) (by rfl) T.g_are_values T.F_are_values.kp T.b_are_values .nil pass0 (pa_cons (pv 2) (pa_cons pe_int pa_nil))) (by intro _; rfl))) (pw_or (pt_not (pt_truth (pe_call (ok_is_place T) (hr.mono (by omega)) (by rfl) T.g_is_place T.F_is_place.kp T.b_is_place .nil pass0 (pa_cons (pv 3) pa_nil)) (by intro _; rfl))) (pw_or1 (pt_not (pt_truth (pe_call (ok_are_values T) (hr.mono (by omega)) (by rfl) T.g_are_values T.F_are_values.kp T.b_are_values .nil pass0 (pa_cons (pv 4) (pa_cons pe_int pa_nil))) (by intro _; rfl))))))))
    (pss_one (ps_raise rfl (takes_of rfl rfl rfl rfl) (pmk_own PySem.F.excBase_ValueError T.xi_NoRow T.g_NoRow T.kp_NoRow (raises_own T.xb_NoRow T.ty_NoRow) (by exact rfl)))) pss_nil)
    (pss_cons (ps_fld (pv 0) (pe_callTy call_tupleU (by rfl) T.n_tuple (by decide +kernel) (pa_cons (pv 1) pa_nil)) rfl)
    (pss_cons (ps_fld (pv 0) (pe_callTy call_tupleU (by rfl) T.n_tuple (by decide +kernel) (pa_cons (pv 2) pa_nil)) rfl)
    (pss_cons (ps_fld (pv 0) (pv 3) rfl)
    (pss_one (ps_fld (pv 0) (pe_callTy call_tupleU (by rfl) T.n_tuple (by decide +kernel) (pa_cons (pv 4) pa_nil)) rfl))))))) (fun E x xs out h => (rd_Row_init K Z E) ▸ sd_runI (Hy := HY Z) T.zf h)
theorem ok_Row_told (T : Txt K mg Z) : FnOk P w K mg base CX0 1 T.a_Row_told T.d_Row_told ["self"] (spD K (RF (F_Row_told Z))) :=
  ok_def (t := t_Row_told K Z) T.F_Row_told sc_Row_told hl_run (fun cdv A outer s H E hr =>
    (pss_one (ps_ret (pe_tupP (pa_cons (pe_fld (pv 0) rfl) (pa_cons (pe_fld (pv 0) rfl) (pa_cons (pe_fld (pv 0) rfl) (pa_cons (pe_fld (pv 0) rfl) pa_nil)))))))) (fun E xs out h => (rd_Row_told K Z E) ▸ sd_run (Hy := HY Z) T.zf h)
theorem ok_is_between (T : Txt K mg Z) : FnOk P w K mg base CX0 2 T.a_is_between T.d_is_between ["thing", "least", "most"] (spD K (RF (F_is_between Z))) :=
  ok_def (t := t_is_between K Z) T.F_is_between sc_is_between hl_run (fun cdv A outer s H E hr =>
    (pss_one (ps_ret (pe_andT (pe_call (ok_is_place T) (hr.mono (by omega)) (by rfl) T.g_is_place T.F_is_place.kp T.b_is_place .nil pass0 (pa_cons (pv 0) pa_nil)) (pe_one (pe_chain op_le op_le (pv 1) (pv 0) (pv 2))))))) (fun E xs out h => (rd_is_between K Z E) ▸ sd_run (Hy := HY Z) T.zf h)
theorem ok_is_pair (T : Txt K mg Z) : FnOk P w K mg base CX0 3 T.a_is_pair T.d_is_pair ["thing", "many"] (spD K (RF (F_is_pair Z))) :=
  ok_def (t := t_is_pair K Z) T.F_is_pair sc_is_pair hl_run (fun cdv A outer s H E hr =>
    (pss_cons (ps_if (PW.pt (pw_or (pt_not (pt_truth (pe_callB call_isU (by rfl) T.n_isinstance (by decide +kernel) (pa_cons (pv 0) (pa_cons (pe_bltn (v := .ty "tuple") (by rfl) T.n_tuple (by decide +kernel) rfl) pa_nil))) (by intro _; rfl))) (pw_or1 (pt_cmpR (op_neU hr.units) (pe_callB call_len (by rfl) T.n_len (by decide +kernel) (pa_cons (pv 0) pa_nil)) pe_int (nomark _)))))
    (pss_one (ps_ret pe_bl)) pss_nil)
    (pss_one (ps_ret (pe_andT (pe_call (ok_is_between T) (hr.mono (by omega)) (by rfl) T.g_is_between T.F_is_between.kp T.b_is_between .nil pass0 (pa_cons (pe_ix ix_seq (pv 0) pe_int (fun _ _ => rfl)) (pa_cons pe_int (pa_cons (pe_op op_sub (pv 1) pe_int) pa_nil)))) (pe_one (pe_call (ok_is_value T) (hr.mono (by omega)) (by rfl) T.g_is_value T.F_is_value.kp T.b_is_value .nil pass0 (pa_cons (pe_ix ix_seq (pv 0) pe_int (fun _ _ => rfl)) pa_nil)))))))) (fun E xs out h => (rd_is_pair K Z E) ▸ sd_run (Hy := HY Z) T.zf h)
theorem ok_is_table (T : Txt K mg Z) : FnOk P w K mg base CX0 4 T.a_is_table T.d_is_table ["thing", "many"] (spD K (RF (F_is_table Z))) :=
  ok_def (t := t_is_table K Z) T.F_is_table sc_is_table hl_run (fun cdv A outer s H E hr =>
    (pss_cons (ps_if (pt_not (pt_truth (pe_callB call_isU (by rfl) T.n_isinstance (by decide +kernel) (pa_cons (pv 0) (pa_cons (pe_bltn (v := .ty "dict") (by rfl) T.n_dict (by decide +kernel) rfl) pa_nil))) (by intro _; rfl)))
    (pss_one (ps_ret pe_bl)) pss_nil)
    (pss_one (ps_ret (pe_callB (cr_all rfl) (by rfl) T.n_all (by decide +kernel) (pa_cons (pe_lc (own := [("key", 2)]) (by rfl) sc_is_table.nd (pi_tkeys (pv 0)) (blkOk_by (own := [("key", 2)]) (N := N_is_table) (sc := defScope s_is_table) (by decide +kernel)) (fun _ _ _ _ _ => (pg_name (i := 2) sc_is_table.nd rfl (by first | exact Or.inl rfl | exact Or.inr rfl))) (fun _ _ _ _ _ => pts_nil) (fun _ _ _ _ _ => (pe_andT (pe_call (ok_is_pair T) (hr.mono (by omega)) (by rfl) T.g_is_pair T.F_is_pair.kp T.b_is_pair .nil pass0 (pa_cons (pv 2) (pa_cons (pv 1) pa_nil))) (pe_one (pe_call (ok_is_pair T) (hr.mono (by omega)) (by rfl) T.g_is_pair T.F_is_pair.kp T.b_is_pair .nil pass0 (pa_cons (pe_ix (ix_T2 ix_seq hr.units) (pv 0) (pv 2) (fun _ _ => rfl)) (pa_cons (pv 1) pa_nil))))))) pa_nil)))))) (fun E xs out h => (rd_is_table K Z E) ▸ sd_run (Hy := HY Z) T.zf h)
theorem ok_Walker_init (T : Txt K mg Z) : FnOk P w K mg base (L2.CX P w) 5 T.a_Walker_init T.d_Walker_init ["self", "states", "table"] (spI K Z.Walker (RI Z.Walker (F_Walker_init Z))) :=
  ok_initX (t := t_Walker_init K Z) T.F_Walker_init sc_Walker_init hl_runI (by decide) (fun cdv A outer s H E hr =>
    (pss_cons (ps_if (PW.pt (pw_or (pt_not (pt_truth (pe_call (ok_is_between T) (hr.mono (by omega)) (by rfl) T.g_is_between T.F_is_between.kp T.b_is_between .nil pass0 (pa_cons (pv 1) (pa_cons pe_int (pa_cons (pe_glob (v := .int 30) (by rfl) T.g_MOST_STATES ⟨_, rfl⟩) pa_nil)))) (by intro _; rfl))) (pw_or1 (pt_not (pt_truth (pe_call (ok_is_table T) (hr.mono (by omega)) (by rfl) T.g_is_table T.F_is_table.kp T.b_is_table .nil pass0 (pa_cons (pv 2) (pa_cons (pv 1) pa_nil))) (by intro _; rfl))))))
    (pss_one (ps_raise rfl (takes_of rfl rfl rfl rfl) (pmk_own PySem.F.excBase_ValueError T.xi_NoWalker T.g_NoWalker T.kp_NoWalker (raises_own T.xb_NoWalker T.ty_NoWalker) (by exact rfl)))) pss_nil)
    (pss_cons (ps_fld (pv 0) (pv 1) rfl)
    (pss_one (ps_fld (pv 0) (pe_tcopyF hr.units (by rfl) T.n_dict (pv 2)) rfl))))) (fun E x xs out h => (rd_Walker_init K Z E) ▸ sd_runI (Hy := HY Z) T.zf h)
theorem ok_Walker_step (T : Txt K mg Z) : FnOk P w K mg base CX0 1 T.a_Walker_step T.d_Walker_step ["self", "state", "value"] (spD K (RF (F_Walker_step Z))) :=
  ok_def (t := t_Walker_step K Z) T.F_Walker_step sc_Walker_step hl_run (fun cdv A outer s H E hr =>
    (pss_one (ps_ret (pe_tget2 hr.units (pe_fld (pv 0) rfl) (pe_tupP (pa_cons (pv 1) (pa_cons (pv 2) pa_nil))) (pe_tupP (pa_cons (pv 1) (pa_cons (pv 2) pa_nil))) (by constructor <;> rfl))))) (fun E xs out h => (rd_Walker_step K Z E) ▸ sd_run (Hy := HY Z) T.zf h)
theorem ok_need_state (T : Txt K mg Z) : FnOk P w K mg base (L2.CX P w) 3 T.a_need_state T.d_need_state ["walker", "thing"] (spD K (RF (F_need_state Z))) :=
  ok_defX (t := t_need_state K Z) T.F_need_state sc_need_state hl_run (fun cdv A outer s H E hr =>
    (pss_one (ps_if (pt_not (pt_truth (pe_call (ok_is_between T) (hr.mono (by omega)) (by rfl) T.g_is_between T.F_is_between.kp T.b_is_between .nil pass0 (pa_cons (pv 1) (pa_cons pe_int (pa_cons (pe_op op_sub (pe_fld (pv 0) rfl) pe_int) pa_nil)))) (by intro _; rfl)))
    (pss_one (ps_raise rfl (takes_of rfl rfl rfl rfl) (pmk_own PySem.F.excBase_ValueError T.xi_NoState T.g_NoState T.kp_NoState (raises_own T.xb_NoState T.ty_NoState) (by exact rfl)))) pss_nil))) (fun E xs out h => (rd_need_state K Z E) ▸ sd_run (Hy := HY Z) T.zf h)
theorem ok_stretches (T : Txt K mg Z) : FnOk P w K mg base CX0 1 T.a_stretches T.d_stretches ["row", "place", "behind"] (spD K (RF (F_stretches Z))) :=
  ok_def (t := t_stretches K Z) T.F_stretches sc_stretches hl_run (fun cdv A outer s H E hr =>
    (pss_cons (ps_set (i := 3) sc_stretches.nd rfl (by first | exact Or.inl rfl | exact Or.inr rfl) (pe_lst pa_nil))
    (pss_cons (ps_set (i := 4) sc_stretches.nd rfl (by first | exact Or.inl rfl | exact Or.inr rfl) (pe_op op_addU (pe_fld (pv 0) rfl) (pe_callB call_len (by rfl) T.n_len (by decide +kernel) (pa_cons (pe_fld (pv 0) rfl) pa_nil))))
    (pss_cons (ps_set (i := 5) sc_stretches.nd rfl (by first | exact Or.inl rfl | exact Or.inr rfl) (pe_lst (pa_cons (pe_tupP (pa_cons (pe_fld (pv 0) rfl) (pa_cons (pe_fld (pv 0) rfl) (pa_cons (pe_fld (pv 0) rfl) pa_nil)))) (pa_cons (pe_tupP (pa_cons (pe_fld (pv 0) rfl) (pa_cons (pe_fld (pv 0) rfl) (pa_cons (pv 4) pa_nil)))) pa_nil))))
    (pss_cons (ps_for PassesOwn.never rfl (pi_seq (pv 5)) (pg_seq rfl (pgs_cons (pg_name (i := 6) sc_stretches.nd rfl (by first | exact Or.inl rfl | exact Or.inr rfl)) (pgs_cons (pg_name (i := 7) sc_stretches.nd rfl (by first | exact Or.inl rfl | exact Or.inr rfl)) (pgs_cons (pg_name (i := 8) sc_stretches.nd rfl (by first | exact Or.inl rfl | exact Or.inr rfl)) pgs_nil))))
    (pss_cons (ps_set (i := 9) sc_stretches.nd rfl (by first | exact Or.inl rfl | exact Or.inr rfl) (pe_ifExp (pt_cmpR op_isN1 (pv 2) pe_non (nomark _)) (pv 8) (pe_callB (call_min2 rfl) (by rfl) T.n_min (by decide +kernel) (pa_cons (pv 8) (pa_cons (pv 2) pa_nil)))))
    (pss_one (ps_if (pt_cmpR op_lt (pv 1) (pv 9) (nomark _))
    (pss_cons (ps_expr (pe_bm PySem.F.plainAttrs_list PySem.F.slot_list_append PySem.F.type_list_append mt_append (pv 3) (pa_cons (pe_tupP (pa_cons (pv 6) (pa_cons (pe_op op_mod (pe_op op_sub (pv 1) (pv 7)) (pe_callB call_len (by rfl) T.n_len (by decide +kernel) (pa_cons (pv 6) pa_nil))) (pa_cons (pe_op op_sub (pv 9) (pv 1)) pa_nil)))) pa_nil)))
    (pss_one (ps_set (i := 1) sc_stretches.nd rfl (by first | exact Or.inl rfl | exact Or.inr rfl) (pv 9)))) pss_nil))))
    (pss_cons (ps_if (pt_cmpR op_isN1 (pv 2) pe_non (nomark _))
    (pss_one (ps_expr (pe_bm PySem.F.plainAttrs_list PySem.F.slot_list_append PySem.F.type_list_append mt_append (pv 3) (pa_cons (pe_tupP (pa_cons (pe_fld (pv 0) rfl) (pa_cons (pe_op op_mod (pe_op op_sub (pv 1) (pv 4)) (pe_callB call_len (by rfl) T.n_len (by decide +kernel) (pa_cons (pe_fld (pv 0) rfl) pa_nil))) (pa_cons pe_non pa_nil)))) pa_nil)))) (pss_one (ps_if (pt_cmpR op_lt (pv 1) (pv 2) (nomark _))
    (pss_one (ps_expr (pe_bm PySem.F.plainAttrs_list PySem.F.slot_list_append PySem.F.type_list_append mt_append (pv 3) (pa_cons (pe_tupP (pa_cons (pe_fld (pv 0) rfl) (pa_cons (pe_op op_mod (pe_op op_sub (pv 1) (pv 4)) (pe_callB call_len (by rfl) T.n_len (by decide +kernel) (pa_cons (pe_fld (pv 0) rfl) pa_nil))) (pa_cons (pe_op op_sub (pv 2) (pv 1)) pa_nil)))) pa_nil)))) pss_nil)))
    (pss_one (ps_ret (pv 3))))))))) (fun E xs out h => (rd_stretches K Z E) ▸ sd_run (Hy := HY Z) T.zf h)
theorem ok_Going_init (T : Txt K mg Z) : FnOk P w K mg base CX0 1 T.a_Going_init T.d_Going_init ["self", "walker", "state", "goal"] (spM K Z.Going (RM (F_Going_init Z))) :=
  ok_meth (t := t_Going_init K Z) T.F_Going_init sc_Going_init (fun _ _ _ _ h => runM_len h) (by decide) (fun cdv A outer s H E hr =>
    (pss_cons (ps_fld (pv 0) (pv 1) rfl)
    (pss_cons (ps_fld (pv 0) (pv 2) rfl)
    (pss_cons (ps_fld (pv 0) (pv 3) rfl)
    (pss_one (ps_fld (pv 0) pe_int rfl)))))) (fun E x fs xs out fs2 h => (rd_Going_init K Z E) ▸ sd_runM (Hy := HY Z) T.zf h)
theorem ok_Going_is_there (T : Txt K mg Z) : FnOk P w K mg base CX0 1 T.a_Going_is_there T.d_Going_is_there ["self"] (spD K (RF (F_Going_is_there Z))) :=
  ok_def (t := t_Going_is_there K Z) T.F_Going_is_there sc_Going_is_there hl_run (fun cdv A outer s H E hr =>
    (pss_one (ps_ret (pe_cmpR (op_eqU hr.units) (pe_fld (pv 0) rfl) (pe_fld (pv 0) rfl) (nomark _))))) (fun E xs out h => (rd_Going_is_there K Z E) ▸ sd_run (Hy := HY Z) T.zf h)
theorem ok_Going_pass_cell (T : Txt K mg Z) : FnOk P w K mg base CX0 2 T.a_Going_pass_cell T.d_Going_pass_cell ["self", "value"] (spM K Z.Going (RM (F_Going_pass_cell Z))) :=
  ok_meth (t := t_Going_pass_cell K Z) T.F_Going_pass_cell sc_Going_pass_cell (fun _ _ _ _ h => runM_len h) (by decide) (fun cdv A outer s H E hr =>
    (pss_cons (ps_fld (pv 0) (pe_ix ix_seq (pe_methS (pe_fld (pv 0) rfl) T.zf.ins_Walker.cl T.me_Walker_step (ok_Walker_step T) (hr.mono (by omega)) T.b_Walker_step (fun _ => pass0C) (pa_cons (pe_fld (pv 0) rfl) (pa_cons (pv 1) pa_nil))) pe_int (fun _ _ => rfl)) rfl)
    (pss_one (ps_fldaug (pv 0) pe_int in_add)))) (fun E x fs xs out fs2 h => (rd_Going_pass_cell K Z E) ▸ sd_runM (Hy := HY Z) T.zf h)
theorem ok_Going_go (T : Txt K mg Z) : FnOk P w K mg base CX0 3 T.a_Going_go T.d_Going_go ["self", "stretch"] (spM K Z.Going (RM (F_Going_go Z))) :=
  ok_meth (t := t_Going_go K Z) T.F_Going_go sc_Going_go (fun _ _ _ _ h => runM_len h) (by decide) (fun cdv A outer s H E hr =>
    (pss_cons (ps_asg (pv 1) (pg_seq rfl (pgs_cons (pg_name (i := 2) sc_Going_go.nd rfl (by first | exact Or.inl rfl | exact Or.inr rfl)) (pgs_cons (pg_name (i := 3) sc_Going_go.nd rfl (by first | exact Or.inl rfl | exact Or.inr rfl)) (pgs_cons (pg_name (i := 4) sc_Going_go.nd rfl (by first | exact Or.inl rfl | exact Or.inr rfl)) pgs_nil)))))
    (pss_cons (ps_fld (pv 0) pe_int rfl)
    (pss_cons (ps_set (i := 5) sc_Going_go.nd rfl (by first | exact Or.inl rfl | exact Or.inr rfl) pe_dnewK)
    (pss_one (ps_while PassesOwn.never (PW.pt (pw_and (pt_not (pt_truth (pe_methS0 (pv 0) T.zf.ins_Going.cl T.me_Going_is_there (ok_Going_is_there T) (hr.mono (by omega)) T.b_Going_is_there (fun _ => pass0C)) (by intro _; rfl))) (pw_and1 (PW.pt (pw_or (pt_cmpR op_isN1 (pv 4) pe_non (nomark _)) (pw_or1 (pt_cmpR op_lt (pe_fld (pv 0) rfl) (pv 4) (nomark _))))))))
    (pss_cons (ps_if (PW.pt (pw_and (pt_cmpR (op_eqU hr.units) (pe_op op_mod (pe_fld (pv 0) rfl) (pe_callB call_len (by rfl) T.n_len (by decide +kernel) (pa_cons (pv 2) pa_nil))) pe_int (nomark _)) (pw_and1 (pt_cmp (pc_din (by have hu := hr.units; first | omega | exact Nat.lt_of_le_of_lt (Nat.add_le_add_left (by decide) _) hu) (pe_fld (pv 0) rfl) (pv 5)) (by rfl)))))
    (pss_cons (ps_if (pt_cmpR op_isN1 (pv 4) pe_non (nomark _))
    (pss_one ps_retN) pss_nil)
    (pss_cons (ps_set (i := 6) sc_Going_go.nd rfl (by first | exact Or.inl rfl | exact Or.inr rfl) (pe_op op_sub (pe_fld (pv 0) rfl) (pe_dget (by have hu := hr.units; first | omega | exact Nat.lt_of_le_of_lt (Nat.add_le_add_left (by decide) _) hu) (pv 5) (pe_fld (pv 0) rfl) (fun _ _ => rfl))))
    (pss_cons (ps_fldaug (pv 0) (pe_op op_mulU (pe_op op_fdivW (pe_op op_sub (pv 4) (pe_fld (pv 0) rfl)) (pv 6)) (pv 6)) in_add)
    (pss_cons (ps_set (i := 5) sc_Going_go.nd rfl (by first | exact Or.inl rfl | exact Or.inr rfl) pe_dnewK)
    (pss_one (ps_if (pt_cmpR (op_eqU hr.units) (pe_fld (pv 0) rfl) (pv 4) (nomark _))
    (pss_one ps_retN) pss_nil)))))) pss_nil)
    (pss_cons (ps_if (pt_cmpR (op_eqU hr.units) (pe_op op_mod (pe_fld (pv 0) rfl) (pe_callB call_len (by rfl) T.n_len (by decide +kernel) (pa_cons (pv 2) pa_nil))) pe_int (nomark _))
    (pss_one (ps_dput (by have hu := hr.units; first | omega | exact Nat.lt_of_le_of_lt (Nat.add_le_add_left (by decide) _) hu) (pv 5) (pe_fld (pv 0) rfl) (pe_fld (pv 0) rfl) rfl)) pss_nil)
    (pss_one (ps_expr (pe_methS (pv 0) T.zf.ins_Going.cl T.me_Going_pass_cell (ok_Going_pass_cell T) (hr.mono (by omega)) T.b_Going_pass_cell (fun _ => pass0C) (pa_cons (pe_ix ix_seq (pv 2) (pe_op op_mod (pe_op op_addU (pv 3) (pe_fld (pv 0) rfl)) (pe_callB call_len (by rfl) T.n_len (by decide +kernel) (pa_cons (pv 2) pa_nil))) (fun _ _ => rfl)) pa_nil)))))))))))) (fun E x fs xs out fs2 h => (rd_Going_go K Z E) ▸ sd_runM (Hy := HY Z) T.zf h)
theorem ok_comes_to (T : Txt K mg Z) : FnOk P w K mg base (L2.CX P w) 4 T.a_comes_to T.d_comes_to ["walker", "row", "place", "state", "goal"] (spD K (RF (F_comes_to Z))) :=
  ok_defX (t := t_comes_to K Z) T.F_comes_to sc_comes_to hl_run (fun cdv A outer s H E hr =>
    (pss_cons (ps_expr (pe_callS (ok_need_place T) (hr.mono (by omega)) (by rfl) T.g_need_place T.F_need_place.kp T.b_need_place (fun σ => passAt (takes_of rfl rfl rfl rfl) σ) (pa_cons (pv 2) pa_nil)))
    (pss_cons (ps_expr (pe_callS (ok_need_state T) (hr.mono (by omega)) (by rfl) T.g_need_state T.F_need_state.kp T.b_need_state (fun σ => passAt (takes_of rfl rfl rfl rfl) σ) (pa_cons (pv 0) (pa_cons (pv 3) pa_nil))))
    (pss_cons (ps_expr (pe_callS (ok_need_state T) (hr.mono (by omega)) (by rfl) T.g_need_state T.F_need_state.kp T.b_need_state (fun σ => passAt (takes_of rfl rfl rfl rfl) σ) (pa_cons (pv 0) (pa_cons (pv 4) pa_nil))))
    (pss_cons (ps_set (i := 5) sc_comes_to.nd rfl (by first | exact Or.inl rfl | exact Or.inr rfl) (pe_makeS T.mk_Going (ok_Going_init T) (hr.mono (by omega)) (by rfl) T.g_Going T.b_Going_init (fun _ => pass0C) (pa_cons (pv 0) (pa_cons (pv 3) (pa_cons (pv 4) pa_nil)))))
    (pss_cons (ps_for (passes_of rfl) rfl (pi_seq (pe_call (ok_stretches T) (hr.mono (by omega)) (by rfl) T.g_stretches T.F_stretches.kp T.b_stretches .nil pass0 (pa_cons (pv 1) (pa_cons (pv 2) (pa_cons pe_non pa_nil))))) (pg_name (i := 6) sc_comes_to.nd rfl (by first | exact Or.inl rfl | exact Or.inr rfl))
    (pss_cons (ps_expr (pe_methS (pv 5) T.zf.ins_Going.cl T.me_Going_go (ok_Going_go T) (hr.mono (by omega)) T.b_Going_go (fun _ => pass0C) (pa_cons (pv 6) pa_nil)))
    (pss_cons (ps_if (pt_truth (pe_methS0 (pv 5) T.zf.ins_Going.cl T.me_Going_is_there (ok_Going_is_there T) (hr.mono (by omega)) T.b_Going_is_there (fun _ => pass0C)) (by intro _; rfl))
    (pss_one (ps_ret (pe_op op_addU (pv 2) (pe_fld (pv 5) rfl)))) pss_nil)
    (pss_one (ps_aug (i := 2) sc_comes_to.nd rfl (by first | exact Or.inl rfl | exact Or.inr rfl) (pe_fld (pv 5) rfl) ip_add)))))
    (pss_one (ps_ret pe_non)))))))) (fun E xs out h => (rd_comes_to K Z E) ▸ sd_run (Hy := HY Z) T.zf h)
theorem ok_l_cell (T : Txt K mg Z) : FnOk P w K mg base CX0 1 T.a_l_cell T.d_l_cell ["_law_script", "_law_k"] (spD K (RF (F_l_cell Z))) :=
  ok_def (t := t_l_cell K Z) T.F_l_cell sc_l_cell hl_run (fun cdv A outer s H E hr =>
    (pss_cons (ps_set (i := 2) sc_l_cell.nd rfl (by first | exact Or.inl rfl | exact Or.inr rfl) (pe_op op_addU (pe_op op_mulU pe_int (pv 1)) pe_int))
    (pss_cons (ps_if (pt_cmpR (op_neU hr.units) (pv 0) (pe_lst pa_nil) (nomark _))
    (pss_cons (ps_set (i := 2) sc_l_cell.nd rfl (by first | exact Or.inl rfl | exact Or.inr rfl) (pe_op op_mulU (pe_ix ix_seq (pv 0) (pe_op op_mod (pv 1) (pe_callB call_len (by rfl) T.n_len (by decide +kernel) (pa_cons (pv 0) pa_nil))) (fun _ _ => rfl)) pe_int))
    (pss_one (ps_set (i := 2) sc_l_cell.nd rfl (by first | exact Or.inl rfl | exact Or.inr rfl) (pe_op op_addU (pe_op op_addU (pv 2) (pe_op op_mulU pe_int (pv 1))) (pe_op op_mulU (pe_op op_fdivW (pv 1) (pe_callB call_len (by rfl) T.n_len (by decide +kernel) (pa_cons (pv 0) pa_nil))) pe_int))))) pss_nil)
    (pss_cons (ps_set (i := 3) sc_l_cell.nd rfl (by first | exact Or.inl rfl | exact Or.inr rfl) (pe_op op_mod (pv 2) pe_int))
    (pss_cons (ps_set (i := 3) sc_l_cell.nd rfl (by first | exact Or.inl rfl | exact Or.inr rfl) (pe_op op_mod (pe_op op_mulU (pv 3) (pv 3)) pe_int))
    (pss_one (ps_ret (pe_op op_mod (pe_op op_addU (pe_op op_addU (pe_op op_mulU (pv 3) (pv 3)) (pe_op op_mulU pe_int (pv 3))) (pv 1)) pe_int)))))))) (fun E xs out h => (rd_l_cell K Z E) ▸ sd_run (Hy := HY Z) T.zf h)
theorem ok_l_value (T : Txt K mg Z) : FnOk P w K mg base CX0 1 T.a_l_value T.d_l_value ["_law_cell_here"] (spD K (RF (F_l_value Z))) :=
  ok_def (t := t_l_value K Z) T.F_l_value sc_l_value hl_run (fun cdv A outer s H E hr =>
    (pss_one (ps_ret (pe_ix ix_seq (pe_lst (pa_cons pe_non (pa_cons pe_int (pa_cons pe_int (pa_cons (pe_un un_neg pe_int) (pa_cons pe_int (pa_cons (pe_op op_sub (pe_op op_pow pe_int pe_int) (pe_op op_mod (pe_op op_fdivW (pv 0) pe_int) pe_int)) (pa_cons pe_non (pa_cons pe_int pa_nil))))))))) (pe_op op_mod (pv 0) pe_int) (fun _ _ => rfl))))) (fun E xs out h => (rd_l_value K Z E) ▸ sd_run (Hy := HY Z) T.zf h)
theorem ok_l_values (T : Txt K mg Z) : FnOk P w K mg base CX0 2 T.a_l_values T.d_l_values ["_law_script", "_law_k", "_law_many"] (spD K (RF (F_l_values Z))) :=
  ok_def (t := t_l_values K Z) T.F_l_values sc_l_values hl_run (fun cdv A outer s H E hr =>
    (pss_one (ps_ret (pe_lc (own := [("_law_j", 3)]) (by rfl) sc_l_values.nd (pi_rangeW1 rfl T.n_range (pa_cons (pv 2) pa_nil)) (blkOk_by (own := [("_law_j", 3)]) (N := N_l_values) (sc := defScope s_l_values) (by decide +kernel)) (fun _ _ _ _ _ => (pg_name (i := 3) sc_l_values.nd rfl (by first | exact Or.inl rfl | exact Or.inr rfl))) (fun _ _ _ _ _ => pts_nil) (fun _ _ _ _ _ => (pe_call (ok_l_value T) (hr.mono (by omega)) (by rfl) T.g_l_value T.F_l_value.kp T.b_l_value .nil pass0 (pa_cons (pe_call (ok_l_cell T) (hr.mono (by omega)) (by rfl) T.g_l_cell T.F_l_cell.kp T.b_l_cell .nil pass0 (pa_cons (pv 0) (pa_cons (pe_op op_addU (pv 1) (pv 3)) pa_nil))) pa_nil))))))) (fun E xs out h => (rd_l_values K Z E) ▸ sd_run (Hy := HY Z) T.zf h)
theorem ok_l_row (T : Txt K mg Z) : FnOk P w K mg base CX0 3 T.a_l_row T.d_l_row ["_law_script", "_law_k"] (spD K (RF (F_l_row Z))) :=
  ok_def (t := t_l_row K Z) T.F_l_row sc_l_row hl_run (fun cdv A outer s H E hr =>
    (pss_cons (ps_set (i := 2) sc_l_row.nd rfl (by first | exact Or.inl rfl | exact Or.inr rfl) (pe_call (ok_l_cell T) (hr.mono (by omega)) (by rfl) T.g_l_cell T.F_l_cell.kp T.b_l_cell .nil pass0 (pa_cons (pv 0) (pa_cons (pv 1) pa_nil))))
    (pss_cons (ps_set (i := 3) sc_l_row.nd rfl (by first | exact Or.inl rfl | exact Or.inr rfl) (pe_call (ok_l_values T) (hr.mono (by omega)) (by rfl) T.g_l_values T.F_l_values.kp T.b_l_values .nil pass0 (pa_cons (pv 0) (pa_cons (pe_op op_addU (pv 1) pe_int) (pa_cons (pe_op op_addU pe_int (pe_op op_mod (pv 2) pe_int)) pa_nil)))))
    (pss_cons (ps_set (i := 4) sc_l_row.nd rfl (by first | exact Or.inl rfl | exact Or.inr rfl) (pe_call (ok_l_values T) (hr.mono (by omega)) (by rfl) T.g_l_values T.F_l_values.kp T.b_l_values .nil pass0 (pa_cons (pv 0) (pa_cons (pe_op op_addU (pv 1) pe_int) (pa_cons (pe_op op_mod (pe_op op_fdivW (pv 2) pe_int) pe_int) pa_nil)))))
    (pss_cons (ps_set (i := 5) sc_l_row.nd rfl (by first | exact Or.inl rfl | exact Or.inr rfl) (pe_call (ok_l_values T) (hr.mono (by omega)) (by rfl) T.g_l_values T.F_l_values.kp T.b_l_values .nil pass0 (pa_cons (pv 0) (pa_cons (pe_op op_addU (pv 1) pe_int) (pa_cons (pe_op op_addU pe_int (pe_op op_mod (pe_op op_fdivW (pv 2) pe_int) pe_int)) pa_nil)))))
    (pss_cons (ps_set (i := 6) sc_l_row.nd rfl (by first | exact Or.inl rfl | exact Or.inr rfl) (pe_op op_addU (pe_ix ix_seq (pe_lst (pa_cons pe_int (pa_cons pe_int (pa_cons (pe_un un_neg pe_int) (pa_cons (pe_op op_pow pe_int pe_int) (pa_cons (pe_op op_sub pe_int (pe_op op_pow pe_int pe_int)) pa_nil)))))) (pe_op op_mod (pe_op op_fdivW (pv 2) pe_int) pe_int) (fun _ _ => rfl)) (pe_op op_mod (pe_op op_fdivW (pv 2) pe_int) pe_int)))
    (pss_one (ps_ret (pe_tupP (pa_cons (pe_callTy call_tupleU (by rfl) T.n_tuple (by decide +kernel) (pa_cons (pv 3) pa_nil)) (pa_cons (pe_callTy call_tupleU (by rfl) T.n_tuple (by decide +kernel) (pa_cons (pv 4) pa_nil)) (pa_cons (pv 6) (pa_cons (pe_callTy call_tupleU (by rfl) T.n_tuple (by decide +kernel) (pa_cons (pv 5) pa_nil)) pa_nil))))))))))))) (fun E xs out h => (rd_l_row K Z E) ▸ sd_run (Hy := HY Z) T.zf h)
theorem ok_l_value_at (T : Txt K mg Z) : FnOk P w K mg base CX0 1 T.a_l_value_at T.d_l_value_at ["_law_drawn", "_law_place"] (spD K (RF (F_l_value_at Z))) :=
  ok_def (t := t_l_value_at K Z) T.F_l_value_at sc_l_value_at hl_run (fun cdv A outer s H E hr =>
    (pss_cons (ps_asg (pv 0) (pg_seq rfl (pgs_cons (pg_name (i := 2) sc_l_value_at.nd rfl (by first | exact Or.inl rfl | exact Or.inr rfl)) (pgs_cons (pg_name (i := 3) sc_l_value_at.nd rfl (by first | exact Or.inl rfl | exact Or.inr rfl)) (pgs_cons (pg_name (i := 4) sc_l_value_at.nd rfl (by first | exact Or.inl rfl | exact Or.inr rfl)) (pgs_cons (pg_name (i := 5) sc_l_value_at.nd rfl (by first | exact Or.inl rfl | exact Or.inr rfl)) pgs_nil))))))
    (pss_cons (ps_if (pt_cmpR op_lt (pv 1) (pv 4) (nomark _))
    (pss_one (ps_ret (pe_ix ix_seq (pv 2) (pe_op op_mod (pe_op op_sub (pv 1) (pv 4)) (pe_callB call_len (by rfl) T.n_len (by decide +kernel) (pa_cons (pv 2) pa_nil))) (fun _ _ => rfl)))) pss_nil)
    (pss_cons (ps_if (pt_cmpR op_lt (pe_op op_sub (pv 1) (pv 4)) (pe_callB call_len (by rfl) T.n_len (by decide +kernel) (pa_cons (pv 3) pa_nil)) (nomark _))
    (pss_one (ps_ret (pe_ix ix_seq (pv 3) (pe_op op_sub (pv 1) (pv 4)) (fun _ _ => rfl)))) pss_nil)
    (pss_one (ps_ret (pe_ix ix_seq (pv 5) (pe_op op_mod (pe_op op_sub (pe_op op_sub (pv 1) (pv 4)) (pe_callB call_len (by rfl) T.n_len (by decide +kernel) (pa_cons (pv 3) pa_nil))) (pe_callB call_len (by rfl) T.n_len (by decide +kernel) (pa_cons (pv 5) pa_nil))) (fun _ _ => rfl)))))))) (fun E xs out h => (rd_l_value_at K Z E) ▸ sd_run (Hy := HY Z) T.zf h)
theorem ok_l_walker (T : Txt K mg Z) : FnOk P w K mg base CX0 2 T.a_l_walker T.d_l_walker ["_law_script", "_law_k"] (spD K (RF (F_l_walker Z))) :=
  ok_def (t := t_l_walker K Z) T.F_l_walker sc_l_walker hl_run (fun cdv A outer s H E hr =>
    (pss_cons (ps_set (i := 2) sc_l_walker.nd rfl (by first | exact Or.inl rfl | exact Or.inr rfl) (pe_call (ok_l_cell T) (hr.mono (by omega)) (by rfl) T.g_l_cell T.F_l_cell.kp T.b_l_cell .nil pass0 (pa_cons (pv 0) (pa_cons (pv 1) pa_nil))))
    (pss_cons (ps_set (i := 3) sc_l_walker.nd rfl (by first | exact Or.inl rfl | exact Or.inr rfl) (pe_ix ix_seq (pe_lst (pa_cons (pe_op op_addU pe_int (pe_op op_mod (pv 2) pe_int)) (pa_cons pe_int (pa_cons pe_int (pa_cons pe_int (pa_cons pe_int (pa_cons pe_int pa_nil))))))) (pe_op op_mod (pe_op op_fdivW (pv 2) pe_int) pe_int) (fun _ _ => rfl)))
    (pss_cons (ps_set (i := 4) sc_l_walker.nd rfl (by first | exact Or.inl rfl | exact Or.inr rfl) pe_tnew)
    (pss_cons (ps_for PassesOwn.never rfl (pi_rangeW1 rfl T.n_range (pa_cons (pv 3) pa_nil)) (pg_name (i := 5) sc_l_walker.nd rfl (by first | exact Or.inl rfl | exact Or.inr rfl))
    (pss_one (ps_for PassesOwn.never rfl (pi_rangeW1 rfl T.n_range (pa_cons pe_int pa_nil)) (pg_name (i := 6) sc_l_walker.nd rfl (by first | exact Or.inl rfl | exact Or.inr rfl))
    (pss_cons (ps_set (i := 7) sc_l_walker.nd rfl (by first | exact Or.inl rfl | exact Or.inr rfl) (pe_call (ok_l_cell T) (hr.mono (by omega)) (by rfl) T.g_l_cell T.F_l_cell.kp T.b_l_cell .nil pass0 (pa_cons (pv 0) (pa_cons (pe_op op_addU (pe_op op_addU (pe_op op_addU (pv 1) pe_int) (pe_op op_mulU pe_int (pv 5))) (pv 6)) pa_nil))))
    (pss_one (ps_if (pt_cmpR op_gt (pe_op op_mod (pv 7) pe_int) pe_int (nomark _))
    (pss_cons (ps_set (i := 8) sc_l_walker.nd rfl (by first | exact Or.inl rfl | exact Or.inr rfl) (pe_ix ix_seq (pe_lst (pa_cons (pe_op op_mod (pe_op op_fdivW (pv 7) pe_int) (pv 3)) (pa_cons (pe_op op_mod (pe_op op_addU (pv 5) pe_int) (pv 3)) pa_nil))) (pe_op op_mod (pe_op op_fdivW (pv 7) pe_int) pe_int) (fun _ _ => rfl)))
    (pss_one (ps_tput hr.units (pv 4) (pe_tupP (pa_cons (pv 5) (pa_cons (pe_ix ix_seq (pe_lst (pa_cons pe_non (pa_cons pe_int (pa_cons pe_int (pa_cons (pe_un un_neg pe_int) (pa_cons pe_int (pa_cons (pe_op op_pow pe_int pe_int) (pa_cons (pe_op op_sub (pe_op op_pow pe_int pe_int) pe_int) pa_nil)))))))) (pv 6) (fun _ _ => rfl)) pa_nil))) (pe_tupP (pa_cons (pv 8) (pa_cons (pe_call (ok_l_value T) (hr.mono (by omega)) (by rfl) T.g_l_value T.F_l_value.kp T.b_l_value .nil pass0 (pa_cons (pe_op op_fdivW (pv 7) pe_int) pa_nil)) pa_nil))) rfl))) pss_nil))))))
    (pss_lockP (pss_one (ps_ret (pe_tupP (pa_cons (pv 3) (pa_cons (pv 4) pa_nil))))))))))) (fun E xs out h => (rd_l_walker K Z E) ▸ sd_run (Hy := HY Z) T.zf h)
theorem ok_l_steps (T : Txt K mg Z) : FnOk P w K mg base CX0 1 T.a_l_steps T.d_l_steps ["_law_walker_here", "_law_state", "_law_values_here"] (spD K (RF (F_l_steps Z))) :=
  ok_def (t := t_l_steps K Z) T.F_l_steps sc_l_steps hl_run (fun cdv A outer s H E hr =>
    (pss_cons (ps_for PassesOwn.never rfl (pi_seq (pv 2)) (pg_name (i := 3) sc_l_steps.nd rfl (by first | exact Or.inl rfl | exact Or.inr rfl))
    (pss_one (ps_set (i := 1) sc_l_steps.nd rfl (by first | exact Or.inl rfl | exact Or.inr rfl) (pe_ix ix_seq (pe_tget2 hr.units (pe_ix ix_seq (pv 0) pe_int (fun _ _ => rfl)) (pe_tupP (pa_cons (pv 1) (pa_cons (pv 3) pa_nil))) (pe_tupP (pa_cons (pv 1) (pa_cons pe_non pa_nil))) (by constructor <;> rfl)) pe_int (fun _ _ => rfl)))))
    (pss_one (ps_ret (pv 1))))) (fun E xs out h => (rd_l_steps K Z E) ▸ sd_run (Hy := HY Z) T.zf h)
theorem ok_l_round (T : Txt K mg Z) : FnOk P w K mg base CX0 2 T.a_l_round T.d_l_round ["_law_walker_here", "_law_ring", "_law_many", "_law_state"] (spD K (RF (F_l_round Z))) :=
  ok_def (t := t_l_round K Z) T.F_l_round sc_l_round hl_run (fun cdv A outer s H E hr =>
    (pss_cons (ps_set (i := 4) sc_l_round.nd rfl (by first | exact Or.inl rfl | exact Or.inr rfl) (pe_lc (own := [("_law_one", 5)]) (by rfl) sc_l_round.nd (pi_rangeW1 rfl T.n_range (pa_cons (pe_ix ix_seq (pv 0) pe_int (fun _ _ => rfl)) pa_nil)) (blkOk_by (own := [("_law_one", 5)]) (N := N_l_round) (sc := defScope s_l_round) (by decide +kernel)) (fun _ _ _ _ _ => (pg_name (i := 5) sc_l_round.nd rfl (by first | exact Or.inl rfl | exact Or.inr rfl))) (fun _ _ _ _ _ => pts_nil) (fun _ _ _ _ _ => (pe_call (ok_l_steps T) (hr.mono (by omega)) (by rfl) T.g_l_steps T.F_l_steps.kp T.b_l_steps .nil pass0 (pa_cons (pv 0) (pa_cons (pv 5) (pa_cons (pv 1) pa_nil)))))))
    (pss_cons (ps_while PassesOwn.never (pt_cmpR op_gt (pv 2) pe_int (nomark _))
    (pss_cons (ps_if (pt_cmpR (op_eqU hr.units) (pe_op op_mod (pv 2) pe_int) pe_int (nomark _))
    (pss_one (ps_set (i := 3) sc_l_round.nd rfl (by first | exact Or.inl rfl | exact Or.inr rfl) (pe_ix ix_seq (pv 4) (pv 3) (fun _ _ => rfl)))) pss_nil)
    (pss_cons (ps_set (i := 4) sc_l_round.nd rfl (by first | exact Or.inl rfl | exact Or.inr rfl) (pe_lc (own := [("_law_one", 5)]) (by rfl) sc_l_round.nd (pi_seq (pv 4)) (blkOk_by (own := [("_law_one", 5)]) (N := N_l_round) (sc := defScope s_l_round) (by decide +kernel)) (fun _ _ _ _ _ => (pg_name (i := 5) sc_l_round.nd rfl (by first | exact Or.inl rfl | exact Or.inr rfl))) (fun _ _ _ _ _ => pts_nil) (fun _ _ _ _ _ => (pe_ix ix_seq (pv 4) (pv 5) (fun _ _ => rfl)))))
    (pss_one (ps_set (i := 2) sc_l_round.nd rfl (by first | exact Or.inl rfl | exact Or.inr rfl) (pe_op op_fdivW (pv 2) pe_int))))))
    (pss_one (ps_ret (pv 3)))))) (fun E xs out h => (rd_l_round K Z E) ▸ sd_run (Hy := HY Z) T.zf h)
theorem ok_l_along (T : Txt K mg Z) : FnOk P w K mg base CX0 3 T.a_l_along T.d_l_along ["_law_walker_here", "_law_ring", "_law_begin", "_law_many", "_law_state"] (spD K (RF (F_l_along Z))) :=
  ok_def (t := t_l_along K Z) T.F_l_along sc_l_along hl_run (fun cdv A outer s H E hr =>
    (pss_cons (ps_set (i := 1) sc_l_along.nd rfl (by first | exact Or.inl rfl | exact Or.inr rfl) (pe_op op_addU (pe_slice sl_U (pv 1) (po_some (pv 2)) po_none) (pe_slice sl_U (pv 1) po_none (po_some (pv 2)))))
    (pss_cons (ps_set (i := 4) sc_l_along.nd rfl (by first | exact Or.inl rfl | exact Or.inr rfl) (pe_call (ok_l_round T) (hr.mono (by omega)) (by rfl) T.g_l_round T.F_l_round.kp T.b_l_round .nil pass0 (pa_cons (pv 0) (pa_cons (pv 1) (pa_cons (pe_op op_fdivW (pv 3) (pe_callB call_len (by rfl) T.n_len (by decide +kernel) (pa_cons (pv 1) pa_nil))) (pa_cons (pv 4) pa_nil))))))
    (pss_one (ps_ret (pe_call (ok_l_steps T) (hr.mono (by omega)) (by rfl) T.g_l_steps T.F_l_steps.kp T.b_l_steps .nil pass0 (pa_cons (pv 0) (pa_cons (pv 4) (pa_cons (pe_slice sl_U (pv 1) po_none (po_some (pe_op op_mod (pv 3) (pe_callB call_len (by rfl) T.n_len (by decide +kernel) (pa_cons (pv 1) pa_nil))))) pa_nil))))))))) (fun E xs out h => (rd_l_along K Z E) ▸ sd_run (Hy := HY Z) T.zf h)
theorem ok_l_state_at (T : Txt K mg Z) : FnOk P w K mg base CX0 4 T.a_l_state_at T.d_l_state_at ["_law_walker_here", "_law_drawn", "_law_place", "_law_state", "_law_behind"] (spD K (RF (F_l_state_at Z))) :=
  ok_def (t := t_l_state_at K Z) T.F_l_state_at sc_l_state_at hl_run (fun cdv A outer s H E hr =>
    (pss_cons (ps_asg (pv 1) (pg_seq rfl (pgs_cons (pg_name (i := 5) sc_l_state_at.nd rfl (by first | exact Or.inl rfl | exact Or.inr rfl)) (pgs_cons (pg_name (i := 6) sc_l_state_at.nd rfl (by first | exact Or.inl rfl | exact Or.inr rfl)) (pgs_cons (pg_name (i := 7) sc_l_state_at.nd rfl (by first | exact Or.inl rfl | exact Or.inr rfl)) (pgs_cons (pg_name (i := 8) sc_l_state_at.nd rfl (by first | exact Or.inl rfl | exact Or.inr rfl)) pgs_nil))))))
    (pss_cons (ps_set (i := 9) sc_l_state_at.nd rfl (by first | exact Or.inl rfl | exact Or.inr rfl) (pe_op op_addU (pv 7) (pe_callB call_len (by rfl) T.n_len (by decide +kernel) (pa_cons (pv 6) pa_nil))))
    (pss_cons (ps_if (pt_cmpR op_lt (pv 2) (pv 7) (nomark _))
    (pss_cons (ps_set (i := 10) sc_l_state_at.nd rfl (by first | exact Or.inl rfl | exact Or.inr rfl) (pe_callB (call_min2 rfl) (by rfl) T.n_min (by decide +kernel) (pa_cons (pv 7) (pa_cons (pv 4) pa_nil))))
    (pss_cons (ps_set (i := 3) sc_l_state_at.nd rfl (by first | exact Or.inl rfl | exact Or.inr rfl) (pe_call (ok_l_along T) (hr.mono (by omega)) (by rfl) T.g_l_along T.F_l_along.kp T.b_l_along .nil pass0 (pa_cons (pv 0) (pa_cons (pv 5) (pa_cons (pe_op op_mod (pe_op op_sub (pv 2) (pv 7)) (pe_callB call_len (by rfl) T.n_len (by decide +kernel) (pa_cons (pv 5) pa_nil))) (pa_cons (pe_op op_sub (pv 10) (pv 2)) (pa_cons (pv 3) pa_nil)))))))
    (pss_one (ps_set (i := 2) sc_l_state_at.nd rfl (by first | exact Or.inl rfl | exact Or.inr rfl) (pv 10))))) pss_nil)
    (pss_cons (ps_if (pt_cmpR op_lt (pv 2) (pe_callB (call_min2 rfl) (by rfl) T.n_min (by decide +kernel) (pa_cons (pv 9) (pa_cons (pv 4) pa_nil))) (nomark _))
    (pss_cons (ps_set (i := 3) sc_l_state_at.nd rfl (by first | exact Or.inl rfl | exact Or.inr rfl) (pe_call (ok_l_steps T) (hr.mono (by omega)) (by rfl) T.g_l_steps T.F_l_steps.kp T.b_l_steps .nil pass0 (pa_cons (pv 0) (pa_cons (pv 3) (pa_cons (pe_slice sl_U (pv 6) (po_some (pe_op op_sub (pv 2) (pv 7))) (po_some (pe_op op_sub (pe_callB (call_min2 rfl) (by rfl) T.n_min (by decide +kernel) (pa_cons (pv 9) (pa_cons (pv 4) pa_nil))) (pv 7)))) pa_nil)))))
    (pss_one (ps_set (i := 2) sc_l_state_at.nd rfl (by first | exact Or.inl rfl | exact Or.inr rfl) (pe_callB (call_min2 rfl) (by rfl) T.n_min (by decide +kernel) (pa_cons (pv 9) (pa_cons (pv 4) pa_nil)))))) pss_nil)
    (pss_cons (ps_if (pt_cmpR op_lt (pv 2) (pv 4) (nomark _))
    (pss_one (ps_set (i := 3) sc_l_state_at.nd rfl (by first | exact Or.inl rfl | exact Or.inr rfl) (pe_call (ok_l_along T) (hr.mono (by omega)) (by rfl) T.g_l_along T.F_l_along.kp T.b_l_along .nil pass0 (pa_cons (pv 0) (pa_cons (pv 8) (pa_cons (pe_op op_mod (pe_op op_sub (pv 2) (pv 9)) (pe_callB call_len (by rfl) T.n_len (by decide +kernel) (pa_cons (pv 8) pa_nil))) (pa_cons (pe_op op_sub (pv 4) (pv 2)) (pa_cons (pv 3) pa_nil)))))))) pss_nil)
    (pss_one (ps_ret (pv 3))))))))) (fun E xs out h => (rd_l_state_at K Z E) ▸ sd_run (Hy := HY Z) T.zf h)
theorem ok_l_met (T : Txt K mg Z) : FnOk P w K mg base CX0 2 T.a_l_met T.d_l_met ["_law_walker_here", "_law_drawn", "_law_place", "_law_state", "_law_goal", "_law_many"] (spD K (RF (F_l_met Z))) :=
  ok_def (t := t_l_met K Z) T.F_l_met sc_l_met hl_run (fun cdv A outer s H E hr =>
    (pss_cons (ps_for PassesOwn.never rfl (pi_rangeW1 rfl T.n_range (pa_cons (pe_op op_addU (pv 5) pe_int) pa_nil)) (pg_name (i := 6) sc_l_met.nd rfl (by first | exact Or.inl rfl | exact Or.inr rfl))
    (pss_cons (ps_if (pt_cmpR (op_eqU hr.units) (pv 3) (pv 4) (nomark _))
    (pss_one (ps_ret (pe_tupP (pa_cons (pv 6) (pa_cons (pv 3) pa_nil))))) pss_nil)
    (pss_one (ps_if (pt_cmpR op_lt (pv 6) (pv 5) (nomark _))
    (pss_one (ps_set (i := 3) sc_l_met.nd rfl (by first | exact Or.inl rfl | exact Or.inr rfl) (pe_call (ok_l_steps T) (hr.mono (by omega)) (by rfl) T.g_l_steps T.F_l_steps.kp T.b_l_steps .nil pass0 (pa_cons (pv 0) (pa_cons (pv 3) (pa_cons (pe_lst (pa_cons (pe_call (ok_l_value_at T) (hr.mono (by omega)) (by rfl) T.g_l_value_at T.F_l_value_at.kp T.b_l_value_at .nil pass0 (pa_cons (pv 1) (pa_cons (pe_op op_addU (pv 2) (pv 6)) pa_nil))) pa_nil)) pa_nil)))))) pss_nil))))
    (pss_one (ps_ret (pe_tupP (pa_cons pe_non (pa_cons (pv 3) pa_nil))))))) (fun E xs out h => (rd_l_met K Z E) ▸ sd_run (Hy := HY Z) T.zf h)
theorem ok_l_due (T : Txt K mg Z) : FnOk P w K mg base CX0 5 T.a_l_due T.d_l_due ["_law_walker_here", "_law_drawn", "_law_place", "_law_state", "_law_goal"] (spD K (RF (F_l_due Z))) :=
  ok_def (t := t_l_due K Z) T.F_l_due sc_l_due hl_run (fun cdv A outer s H E hr =>
    (pss_cons (ps_asg (pv 1) (pg_seq rfl (pgs_cons (pg_name (i := 5) sc_l_due.nd rfl (by first | exact Or.inl rfl | exact Or.inr rfl)) (pgs_cons (pg_name (i := 6) sc_l_due.nd rfl (by first | exact Or.inl rfl | exact Or.inr rfl)) (pgs_cons (pg_name (i := 7) sc_l_due.nd rfl (by first | exact Or.inl rfl | exact Or.inr rfl)) (pgs_cons (pg_name (i := 8) sc_l_due.nd rfl (by first | exact Or.inl rfl | exact Or.inr rfl)) pgs_nil))))))
    (pss_cons (ps_if (pt_cmpR op_lt (pv 2) (pv 7) (nomark _))
    (pss_cons (ps_set (i := 9) sc_l_due.nd rfl (by first | exact Or.inl rfl | exact Or.inr rfl) (pe_callB (call_min2 rfl) (by rfl) T.n_min (by decide +kernel) (pa_cons (pe_op op_sub (pv 7) (pv 2)) (pa_cons (pe_op op_mulU (pe_op op_addU (pe_ix ix_seq (pv 0) pe_int (fun _ _ => rfl)) pe_int) (pe_callB call_len (by rfl) T.n_len (by decide +kernel) (pa_cons (pv 5) pa_nil))) pa_nil))))
    (pss_cons (ps_asg (pe_call (ok_l_met T) (hr.mono (by omega)) (by rfl) T.g_l_met T.F_l_met.kp T.b_l_met .nil pass0 (pa_cons (pv 0) (pa_cons (pv 1) (pa_cons (pv 2) (pa_cons (pv 3) (pa_cons (pv 4) (pa_cons (pv 9) pa_nil))))))) (pg_seq rfl (pgs_cons (pg_name (i := 10) sc_l_due.nd rfl (by first | exact Or.inl rfl | exact Or.inr rfl)) (pgs_cons (pg_name (i := 11) sc_l_due.nd rfl (by first | exact Or.inl rfl | exact Or.inr rfl)) pgs_nil))))
    (pss_cons (ps_if (pt_cmpR op_notN1 (pv 10) pe_non (nomark _))
    (pss_one (ps_ret (pe_op op_addU (pv 2) (pv 10)))) pss_nil)
    (pss_cons (ps_set (i := 3) sc_l_due.nd rfl (by first | exact Or.inl rfl | exact Or.inr rfl) (pe_call (ok_l_state_at T) (hr.mono (by omega)) (by rfl) T.g_l_state_at T.F_l_state_at.kp T.b_l_state_at .nil pass0 (pa_cons (pv 0) (pa_cons (pv 1) (pa_cons (pv 2) (pa_cons (pv 3) (pa_cons (pv 7) pa_nil)))))))
    (pss_one (ps_set (i := 2) sc_l_due.nd rfl (by first | exact Or.inl rfl | exact Or.inr rfl) (pv 7))))))) pss_nil)
    (pss_cons (ps_set (i := 9) sc_l_due.nd rfl (by first | exact Or.inl rfl | exact Or.inr rfl) (pe_op op_addU (pe_callB (call_max2 rfl) (by rfl) T.n_max (by decide +kernel) (pa_cons pe_int (pa_cons (pe_op op_sub (pe_op op_addU (pv 7) (pe_callB call_len (by rfl) T.n_len (by decide +kernel) (pa_cons (pv 6) pa_nil))) (pv 2)) pa_nil))) (pe_op op_mulU (pe_op op_addU (pe_ix ix_seq (pv 0) pe_int (fun _ _ => rfl)) pe_int) (pe_callB call_len (by rfl) T.n_len (by decide +kernel) (pa_cons (pv 8) pa_nil)))))
    (pss_cons (ps_asg (pe_call (ok_l_met T) (hr.mono (by omega)) (by rfl) T.g_l_met T.F_l_met.kp T.b_l_met .nil pass0 (pa_cons (pv 0) (pa_cons (pv 1) (pa_cons (pv 2) (pa_cons (pv 3) (pa_cons (pv 4) (pa_cons (pv 9) pa_nil))))))) (pg_seq rfl (pgs_cons (pg_name (i := 10) sc_l_due.nd rfl (by first | exact Or.inl rfl | exact Or.inr rfl)) (pgs_cons (pg_name (i := 11) sc_l_due.nd rfl (by first | exact Or.inl rfl | exact Or.inr rfl)) pgs_nil))))
    (pss_cons (ps_if (pt_cmpR op_isN1 (pv 10) pe_non (nomark _))
    (pss_one (ps_ret pe_non)) pss_nil)
    (pss_one (ps_ret (pe_op op_addU (pv 2) (pv 10)))))))))) (fun E xs out h => (rd_l_due K Z E) ▸ sd_run (Hy := HY Z) T.zf h)
theorem ok_law (T : Txt K mg Z) : FnOk P w K mg base CX0 7 T.a_law T.d_law ["_law_script"] (spD K (RF (F_law Z))) :=
  ok_def (t := t_law K Z) T.F_law sc_law hl_run (fun cdv A outer s H E hr =>
    (pss_cons (ps_set (i := 1) sc_law.nd rfl (by first | exact Or.inl rfl | exact Or.inr rfl) (pe_lst (pa_cons (pe_call (ok_l_row T) (hr.mono (by omega)) (by rfl) T.g_l_row T.F_l_row.kp T.b_l_row .nil pass0 (pa_cons (pv 0) (pa_cons pe_int pa_nil))) (pa_cons (pe_call (ok_l_row T) (hr.mono (by omega)) (by rfl) T.g_l_row T.F_l_row.kp T.b_l_row .nil pass0 (pa_cons (pv 0) (pa_cons pe_int pa_nil))) pa_nil))))
    (pss_cons (ps_setLc (i := 2) (own := [("_law_one", 3)]) (by rfl) sc_law.nd rfl rfl (sw_true rfl rfl rfl (by decide +kernel)) (pi_seq (pv 1)) (blkOk_by (own := [("_law_one", 3)]) (N := N_law) (sc := defScope s_law) (by decide +kernel)) (fun _ _ _ _ _ => (pg_name (i := 3) sc_law.nd rfl (by first | exact Or.inl rfl | exact Or.inr rfl))) (fun _ _ _ _ _ => pts_nil) (fun _ _ _ _ _ => (pe_makeS T.mk_Row (ok_Row_init T) (hr.mono (by omega)) (by rfl) T.g_Row T.b_Row_init (fun _ => passC) (pa_cons (pe_ix ix_seq (pv 3) pe_int (fun _ _ => rfl)) (pa_cons (pe_ix ix_seq (pv 3) pe_int (fun _ _ => rfl)) (pa_cons (pe_ix ix_seq (pv 3) pe_int (fun _ _ => rfl)) (pa_cons (pe_ix ix_seq (pv 3) pe_int (fun _ _ => rfl)) pa_nil)))))))
    (pss_cons (ps_set (i := 4) sc_law.nd rfl (by first | exact Or.inl rfl | exact Or.inr rfl) (pe_lst (pa_cons (pe_call (ok_l_walker T) (hr.mono (by omega)) (by rfl) T.g_l_walker T.F_l_walker.kp T.b_l_walker .nil pass0 (pa_cons (pv 0) (pa_cons pe_int pa_nil))) (pa_cons (pe_call (ok_l_walker T) (hr.mono (by omega)) (by rfl) T.g_l_walker T.F_l_walker.kp T.b_l_walker .nil pass0 (pa_cons (pv 0) (pa_cons pe_int pa_nil))) pa_nil))))
    (pss_cons (ps_setLc (i := 5) (own := [("_law_legs", 6)]) (by rfl) sc_law.nd rfl rfl (sw_true rfl rfl rfl (by decide +kernel)) (pi_seq (pv 4)) (blkOk_by (own := [("_law_legs", 6)]) (N := N_law) (sc := defScope s_law) (by decide +kernel)) (fun _ _ _ _ _ => (pg_name (i := 6) sc_law.nd rfl (by first | exact Or.inl rfl | exact Or.inr rfl))) (fun _ _ _ _ _ => pts_nil) (fun _ _ _ _ _ => (pe_makeS T.mk_Walker (ok_Walker_init T) (hr.mono (by omega)) (by rfl) T.g_Walker T.b_Walker_init (fun _ => passC) (pa_cons (pe_ix ix_seq (pv 6) pe_int (fun _ _ => rfl)) (pa_cons (pe_ix ix_seq (pv 6) pe_int (fun _ _ => rfl)) pa_nil)))))
    (pss_cons (ps_for PassesOwn.never rfl (pi_rangeW1 rfl T.n_range (pa_cons (pe_op op_addU (pe_callB (call_min2 rfl) (by rfl) T.n_min (by decide +kernel) (pa_cons pe_int (pa_cons (pe_callB call_len (by rfl) T.n_len (by decide +kernel) (pa_cons (pv 0) pa_nil)) pa_nil))) pe_int) pa_nil)) (pg_name (i := 7) sc_law.nd rfl (by first | exact Or.inl rfl | exact Or.inr rfl))
    (pss_cons (ps_set (i := 8) sc_law.nd rfl (by first | exact Or.inl rfl | exact Or.inr rfl) (pe_call (ok_l_cell T) (hr.mono (by omega)) (by rfl) T.g_l_cell T.F_l_cell.kp T.b_l_cell .nil pass0 (pa_cons (pv 0) (pa_cons (pe_op op_addU pe_int (pe_op op_mulU pe_int (pv 7))) pa_nil))))
    (pss_cons (ps_set (i := 6) sc_law.nd rfl (by first | exact Or.inl rfl | exact Or.inr rfl) (pe_ix ix_seq (pv 4) (pe_op op_mod (pe_op op_fdivW (pv 7) pe_int) pe_int) (fun _ _ => rfl)))
    (pss_cons (ps_set (i := 9) sc_law.nd rfl (by first | exact Or.inl rfl | exact Or.inr rfl) (pe_op op_mulU (pe_call (ok_l_cell T) (hr.mono (by omega)) (by rfl) T.g_l_cell T.F_l_cell.kp T.b_l_cell .nil pass0 (pa_cons (pv 0) (pa_cons (pe_op op_addU pe_int (pe_op op_mulU pe_int (pv 7))) pa_nil))) (pe_ix ix_seq (pe_lst (pa_cons (pe_op op_pow pe_int pe_int) (pa_cons (pe_op op_pow pe_int pe_int) pa_nil))) (pe_op op_mod (pe_op op_fdivW (pv 8) pe_int) pe_int) (fun _ _ => rfl))))
    (pss_cons (ps_set (i := 10) sc_law.nd rfl (by first | exact Or.inl rfl | exact Or.inr rfl) (pe_op op_addU (pe_ix ix_seq (pe_ix ix_seq (pv 1) (pe_op op_mod (pv 7) pe_int) (fun _ _ => rfl)) pe_int (fun _ _ => rfl)) (pe_ix ix_seq (pe_lst (pa_cons (pe_op op_sub (pe_op op_mod (pv 8) pe_int) pe_int) (pa_cons (pe_op op_sub pe_int (pv 9)) (pa_cons (pv 9) (pa_cons (pe_op op_sub pe_int (pe_op op_mod (pv 8) (pe_op op_pow pe_int pe_int))) pa_nil))))) (pe_op op_mod (pe_op op_fdivW (pv 8) pe_int) pe_int) (fun _ _ => rfl))))
    (pss_cons (ps_set (i := 11) sc_law.nd rfl (by first | exact Or.inl rfl | exact Or.inr rfl) (pe_op op_mod (pe_call (ok_l_cell T) (hr.mono (by omega)) (by rfl) T.g_l_cell T.F_l_cell.kp T.b_l_cell .nil pass0 (pa_cons (pv 0) (pa_cons (pe_op op_addU pe_int (pe_op op_mulU pe_int (pv 7))) pa_nil))) (pe_ix ix_seq (pv 6) pe_int (fun _ _ => rfl))))
    (pss_cons (ps_set (i := 12) sc_law.nd rfl (by first | exact Or.inl rfl | exact Or.inr rfl) (pe_ix ix_seq (pe_lst (pa_cons (pe_op op_mod (pe_call (ok_l_cell T) (hr.mono (by omega)) (by rfl) T.g_l_cell T.F_l_cell.kp T.b_l_cell .nil pass0 (pa_cons (pv 0) (pa_cons (pe_op op_addU pe_int (pe_op op_mulU pe_int (pv 7))) pa_nil))) (pe_ix ix_seq (pv 6) pe_int (fun _ _ => rfl))) (pa_cons (pv 11) pa_nil))) (pe_op op_fdivW (pe_op op_mod (pe_op op_fdivW (pv 8) pe_int) pe_int) pe_int) (fun _ _ => rfl)))
    (pss_cons (ps_set (i := 13) sc_law.nd rfl (by first | exact Or.inl rfl | exact Or.inr rfl) (pe_call (ok_l_due T) (hr.mono (by omega)) (by rfl) T.g_l_due T.F_l_due.kp T.b_l_due .nil pass0 (pa_cons (pv 6) (pa_cons (pe_ix ix_seq (pv 1) (pe_op op_mod (pv 7) pe_int) (fun _ _ => rfl)) (pa_cons (pv 10) (pa_cons (pv 11) (pa_cons (pv 12) pa_nil)))))))
    (pss_cons (ps_set (i := 14) sc_law.nd rfl (by first | exact Or.inl rfl | exact Or.inr rfl) (pe_call (ok_comes_to T) (hr.mono (by omega)) (by rfl) T.g_comes_to T.F_comes_to.kp T.b_comes_to .nil passL (pa_cons (pe_ix ix_seq (pv 5) (pe_op op_mod (pe_op op_fdivW (pv 7) pe_int) pe_int) (fun _ _ => rfl)) (pa_cons (pe_ix ix_seq (pv 2) (pe_op op_mod (pv 7) pe_int) (fun _ _ => rfl)) (pa_cons (pv 10) (pa_cons (pv 11) (pa_cons (pv 12) pa_nil)))))))
    (pss_one (ps_if (PW.pt (pw_or (pt_cmpR (op_neU hr.units) (pe_cmpR op_isN1 (pv 14) pe_non (nomark _)) (pe_cmpR op_isN1 (pv 13) pe_non (nomark _)) (nomark _)) (pw_or (pt_cmpR (op_neU hr.units) (pv 14) (pv 13) (nomark _)) (pw_or1 (pt_truth (pe_callB call_isU (by rfl) T.n_isinstance (by decide +kernel) (pa_cons (pv 14) (pa_cons (pe_bltn (v := .ty "bool") (by rfl) T.n_bool (by decide +kernel) rfl) pa_nil))) (by intro _; rfl))))))
    (pss_one (ps_ret pe_bl)) pss_nil)))))))))))
    (pss_one (ps_ret (pe_cmpR (op_eqU hr.units) (pe_lc (own := [("_law_one", 3)]) (by rfl) sc_law.nd (pi_seq (pv 2)) (blkOk_by (own := [("_law_one", 3)]) (N := N_law) (sc := defScope s_law) (by decide +kernel)) (fun _ _ _ _ _ => (pg_name (i := 3) sc_law.nd rfl (by first | exact Or.inl rfl | exact Or.inr rfl))) (fun _ _ _ _ _ => pts_nil) (fun _ _ _ _ _ => (pe_methS0 (pv 3) T.zf.ins_Row.cl T.me_Row_told (ok_Row_told T) (hr.mono (by omega)) T.b_Row_told (fun _ => pass0C)))) (pv 1) (nomark _)))))))))) (fun E xs out h => (rd_law K Z E) ▸ sd_run (Hy := HY Z) T.zf h)
end
theorem all_mk {l : PySem.W.OpenLaw} {w : World} {K : PySem.W.Frag} {h : Heap} {mg : Str → Option Value} {fa : Addr} (X : K.In h) (G : h.Ns mainGlobals mg) (hfa : mg "law" = some (.ref fa))
    {c_FarError c_NoPlace c_NoRow c_NoWalker c_NoState c_Row c_Walker c_Going : Addr}
    (ga_FarError : PySem.W.nsIn K mainGlobals "FarError" = some (some (.ref c_FarError)))
    (ga_NoPlace : PySem.W.nsIn K mainGlobals "NoPlace" = some (some (.ref c_NoPlace)))
    (ga_NoRow : PySem.W.nsIn K mainGlobals "NoRow" = some (some (.ref c_NoRow)))
    (ga_NoWalker : PySem.W.nsIn K mainGlobals "NoWalker" = some (some (.ref c_NoWalker)))
    (ga_NoState : PySem.W.nsIn K mainGlobals "NoState" = some (some (.ref c_NoState)))
    (ga_Row : PySem.W.nsIn K mainGlobals "Row" = some (some (.ref c_Row)))
    (ga_Walker : PySem.W.nsIn K mainGlobals "Walker" = some (some (.ref c_Walker)))
    (ga_Going : PySem.W.nsIn K mainGlobals "Going" = some (some (.ref c_Going)))
    {f_is_place : Addr} {od_is_place an_is_place : Option Addr} {sl_is_place : Array (Option Value)} {oc_is_place kV_is_place dc_is_place pm_is_place cd_is_place ct_is_place : Value}
    (a_is_place : PySem.W.nsIn K mainGlobals "is_place" = some (some (.ref f_is_place)))
    (l_is_place : K.lookup f_is_place = some ⟨oc_is_place, od_is_place, .func (PySem.W.fnOf "is_place" "is_place" (defArgs s_is_place) (defBody s_is_place) (defScope s_is_place) .none kV_is_place dc_is_place pm_is_place an_is_place cd_is_place ct_is_place), sl_is_place⟩)
    (c_is_place : PySem.W.codeIn K cd_is_place "is_place" = true)
    (k_is_place : PySem.W.keepIn K (.ref f_is_place) = true)
    {f_is_value : Addr} {od_is_value an_is_value : Option Addr} {sl_is_value : Array (Option Value)} {oc_is_value kV_is_value dc_is_value pm_is_value cd_is_value ct_is_value : Value}
    (a_is_value : PySem.W.nsIn K mainGlobals "is_value" = some (some (.ref f_is_value)))
    (l_is_value : K.lookup f_is_value = some ⟨oc_is_value, od_is_value, .func (PySem.W.fnOf "is_value" "is_value" (defArgs s_is_value) (defBody s_is_value) (defScope s_is_value) .none kV_is_value dc_is_value pm_is_value an_is_value cd_is_value ct_is_value), sl_is_value⟩)
    (c_is_value : PySem.W.codeIn K cd_is_value "is_value" = true)
    (k_is_value : PySem.W.keepIn K (.ref f_is_value) = true)
    {f_are_values : Addr} {od_are_values an_are_values : Option Addr} {sl_are_values : Array (Option Value)} {oc_are_values kV_are_values dc_are_values pm_are_values cd_are_values ct_are_values : Value}
    (a_are_values : PySem.W.nsIn K mainGlobals "are_values" = some (some (.ref f_are_values)))
    (l_are_values : K.lookup f_are_values = some ⟨oc_are_values, od_are_values, .func (PySem.W.fnOf "are_values" "are_values" (defArgs s_are_values) (defBody s_are_values) (defScope s_are_values) .none kV_are_values dc_are_values pm_are_values an_are_values cd_are_values ct_are_values), sl_are_values⟩)
    (c_are_values : PySem.W.codeIn K cd_are_values "are_values" = true)
    (k_are_values : PySem.W.keepIn K (.ref f_are_values) = true)
    {f_need_place : Addr} {od_need_place an_need_place : Option Addr} {sl_need_place : Array (Option Value)} {oc_need_place kV_need_place dc_need_place pm_need_place cd_need_place ct_need_place : Value}
    (a_need_place : PySem.W.nsIn K mainGlobals "need_place" = some (some (.ref f_need_place)))
    (l_need_place : K.lookup f_need_place = some ⟨oc_need_place, od_need_place, .func (PySem.W.fnOf "need_place" "need_place" (defArgs s_need_place) (defBody s_need_place) (defScope s_need_place) .none kV_need_place dc_need_place pm_need_place an_need_place cd_need_place ct_need_place), sl_need_place⟩)
    (c_need_place : PySem.W.codeIn K cd_need_place "need_place" = true)
    (k_need_place : PySem.W.keepIn K (.ref f_need_place) = true)
    {f_Row_init : Addr} {od_Row_init an_Row_init : Option Addr} {sl_Row_init : Array (Option Value)} {oc_Row_init kV_Row_init dc_Row_init pm_Row_init cd_Row_init ct_Row_init : Value}
    (a_Row_init : PySem.W.findIn K (.ref c_Row) "__init__" = some (some (.ref f_Row_init)))
    (i_Row_init : PySem.W.isFn K (.ref f_Row_init) = true)
    (l_Row_init : K.lookup f_Row_init = some ⟨oc_Row_init, od_Row_init, .func (PySem.W.fnOf "__init__" "Row.__init__" (defArgs s_Row_init) (defBody s_Row_init) (defScope s_Row_init) .none kV_Row_init dc_Row_init pm_Row_init an_Row_init cd_Row_init ct_Row_init), sl_Row_init⟩)
    (c_Row_init : PySem.W.codeIn K cd_Row_init "Row.__init__" = true)
    (k_Row_init : PySem.W.keepIn K (.ref f_Row_init) = true)
    {f_Row_told : Addr} {od_Row_told an_Row_told : Option Addr} {sl_Row_told : Array (Option Value)} {oc_Row_told kV_Row_told dc_Row_told pm_Row_told cd_Row_told ct_Row_told : Value}
    (a_Row_told : PySem.W.findIn K (.ref c_Row) "told" = some (some (.ref f_Row_told)))
    (i_Row_told : PySem.W.isFn K (.ref f_Row_told) = true)
    (l_Row_told : K.lookup f_Row_told = some ⟨oc_Row_told, od_Row_told, .func (PySem.W.fnOf "told" "Row.told" (defArgs s_Row_told) (defBody s_Row_told) (defScope s_Row_told) .none kV_Row_told dc_Row_told pm_Row_told an_Row_told cd_Row_told ct_Row_told), sl_Row_told⟩)
    (c_Row_told : PySem.W.codeIn K cd_Row_told "Row.told" = true)
    (k_Row_told : PySem.W.keepIn K (.ref f_Row_told) = true)
    {f_is_between : Addr} {od_is_between an_is_between : Option Addr} {sl_is_between : Array (Option Value)} {oc_is_between kV_is_between dc_is_between pm_is_between cd_is_between ct_is_between : Value}
    (a_is_between : PySem.W.nsIn K mainGlobals "is_between" = some (some (.ref f_is_between)))
    (l_is_between : K.lookup f_is_between = some ⟨oc_is_between, od_is_between, .func (PySem.W.fnOf "is_between" "is_between" (defArgs s_is_between) (defBody s_is_between) (defScope s_is_between) .none kV_is_between dc_is_between pm_is_between an_is_between cd_is_between ct_is_between), sl_is_between⟩)
    (c_is_between : PySem.W.codeIn K cd_is_between "is_between" = true)
    (k_is_between : PySem.W.keepIn K (.ref f_is_between) = true)
    {f_is_pair : Addr} {od_is_pair an_is_pair : Option Addr} {sl_is_pair : Array (Option Value)} {oc_is_pair kV_is_pair dc_is_pair pm_is_pair cd_is_pair ct_is_pair : Value}
    (a_is_pair : PySem.W.nsIn K mainGlobals "is_pair" = some (some (.ref f_is_pair)))
    (l_is_pair : K.lookup f_is_pair = some ⟨oc_is_pair, od_is_pair, .func (PySem.W.fnOf "is_pair" "is_pair" (defArgs s_is_pair) (defBody s_is_pair) (defScope s_is_pair) .none kV_is_pair dc_is_pair pm_is_pair an_is_pair cd_is_pair ct_is_pair), sl_is_pair⟩)
    (c_is_pair : PySem.W.codeIn K cd_is_pair "is_pair" = true)
    (k_is_pair : PySem.W.keepIn K (.ref f_is_pair) = true)
    {f_is_table : Addr} {od_is_table an_is_table : Option Addr} {sl_is_table : Array (Option Value)} {oc_is_table kV_is_table dc_is_table pm_is_table cd_is_table ct_is_table : Value}
    (a_is_table : PySem.W.nsIn K mainGlobals "is_table" = some (some (.ref f_is_table)))
    (l_is_table : K.lookup f_is_table = some ⟨oc_is_table, od_is_table, .func (PySem.W.fnOf "is_table" "is_table" (defArgs s_is_table) (defBody s_is_table) (defScope s_is_table) .none kV_is_table dc_is_table pm_is_table an_is_table cd_is_table ct_is_table), sl_is_table⟩)
    (c_is_table : PySem.W.codeIn K cd_is_table "is_table" = true)
    (k_is_table : PySem.W.keepIn K (.ref f_is_table) = true)
    {f_Walker_init : Addr} {od_Walker_init an_Walker_init : Option Addr} {sl_Walker_init : Array (Option Value)} {oc_Walker_init kV_Walker_init dc_Walker_init pm_Walker_init cd_Walker_init ct_Walker_init : Value}
    (a_Walker_init : PySem.W.findIn K (.ref c_Walker) "__init__" = some (some (.ref f_Walker_init)))
    (i_Walker_init : PySem.W.isFn K (.ref f_Walker_init) = true)
    (l_Walker_init : K.lookup f_Walker_init = some ⟨oc_Walker_init, od_Walker_init, .func (PySem.W.fnOf "__init__" "Walker.__init__" (defArgs s_Walker_init) (defBody s_Walker_init) (defScope s_Walker_init) .none kV_Walker_init dc_Walker_init pm_Walker_init an_Walker_init cd_Walker_init ct_Walker_init), sl_Walker_init⟩)
    (c_Walker_init : PySem.W.codeIn K cd_Walker_init "Walker.__init__" = true)
    (k_Walker_init : PySem.W.keepIn K (.ref f_Walker_init) = true)
    {f_Walker_step : Addr} {od_Walker_step an_Walker_step : Option Addr} {sl_Walker_step : Array (Option Value)} {oc_Walker_step kV_Walker_step dc_Walker_step pm_Walker_step cd_Walker_step ct_Walker_step : Value}
    (a_Walker_step : PySem.W.findIn K (.ref c_Walker) "step" = some (some (.ref f_Walker_step)))
    (i_Walker_step : PySem.W.isFn K (.ref f_Walker_step) = true)
    (l_Walker_step : K.lookup f_Walker_step = some ⟨oc_Walker_step, od_Walker_step, .func (PySem.W.fnOf "step" "Walker.step" (defArgs s_Walker_step) (defBody s_Walker_step) (defScope s_Walker_step) .none kV_Walker_step dc_Walker_step pm_Walker_step an_Walker_step cd_Walker_step ct_Walker_step), sl_Walker_step⟩)
    (c_Walker_step : PySem.W.codeIn K cd_Walker_step "Walker.step" = true)
    (k_Walker_step : PySem.W.keepIn K (.ref f_Walker_step) = true)
    {f_need_state : Addr} {od_need_state an_need_state : Option Addr} {sl_need_state : Array (Option Value)} {oc_need_state kV_need_state dc_need_state pm_need_state cd_need_state ct_need_state : Value}
    (a_need_state : PySem.W.nsIn K mainGlobals "need_state" = some (some (.ref f_need_state)))
    (l_need_state : K.lookup f_need_state = some ⟨oc_need_state, od_need_state, .func (PySem.W.fnOf "need_state" "need_state" (defArgs s_need_state) (defBody s_need_state) (defScope s_need_state) .none kV_need_state dc_need_state pm_need_state an_need_state cd_need_state ct_need_state), sl_need_state⟩)
    (c_need_state : PySem.W.codeIn K cd_need_state "need_state" = true)
    (k_need_state : PySem.W.keepIn K (.ref f_need_state) = true)
    {f_stretches : Addr} {od_stretches an_stretches : Option Addr} {sl_stretches : Array (Option Value)} {oc_stretches kV_stretches dc_stretches pm_stretches cd_stretches ct_stretches : Value}
    (a_stretches : PySem.W.nsIn K mainGlobals "stretches" = some (some (.ref f_stretches)))
    (l_stretches : K.lookup f_stretches = some ⟨oc_stretches, od_stretches, .func (PySem.W.fnOf "stretches" "stretches" (defArgs s_stretches) (defBody s_stretches) (defScope s_stretches) .none kV_stretches dc_stretches pm_stretches an_stretches cd_stretches ct_stretches), sl_stretches⟩)
    (c_stretches : PySem.W.codeIn K cd_stretches "stretches" = true)
    (k_stretches : PySem.W.keepIn K (.ref f_stretches) = true)
    {f_Going_init : Addr} {od_Going_init an_Going_init : Option Addr} {sl_Going_init : Array (Option Value)} {oc_Going_init kV_Going_init dc_Going_init pm_Going_init cd_Going_init ct_Going_init : Value}
    (a_Going_init : PySem.W.findIn K (.ref c_Going) "__init__" = some (some (.ref f_Going_init)))
    (i_Going_init : PySem.W.isFn K (.ref f_Going_init) = true)
    (l_Going_init : K.lookup f_Going_init = some ⟨oc_Going_init, od_Going_init, .func (PySem.W.fnOf "__init__" "Going.__init__" (defArgs s_Going_init) (defBody s_Going_init) (defScope s_Going_init) .none kV_Going_init dc_Going_init pm_Going_init an_Going_init cd_Going_init ct_Going_init), sl_Going_init⟩)
    (c_Going_init : PySem.W.codeIn K cd_Going_init "Going.__init__" = true)
    (k_Going_init : PySem.W.keepIn K (.ref f_Going_init) = true)
    {f_Going_is_there : Addr} {od_Going_is_there an_Going_is_there : Option Addr} {sl_Going_is_there : Array (Option Value)} {oc_Going_is_there kV_Going_is_there dc_Going_is_there pm_Going_is_there cd_Going_is_there ct_Going_is_there : Value}
    (a_Going_is_there : PySem.W.findIn K (.ref c_Going) "is_there" = some (some (.ref f_Going_is_there)))
    (i_Going_is_there : PySem.W.isFn K (.ref f_Going_is_there) = true)
    (l_Going_is_there : K.lookup f_Going_is_there = some ⟨oc_Going_is_there, od_Going_is_there, .func (PySem.W.fnOf "is_there" "Going.is_there" (defArgs s_Going_is_there) (defBody s_Going_is_there) (defScope s_Going_is_there) .none kV_Going_is_there dc_Going_is_there pm_Going_is_there an_Going_is_there cd_Going_is_there ct_Going_is_there), sl_Going_is_there⟩)
    (c_Going_is_there : PySem.W.codeIn K cd_Going_is_there "Going.is_there" = true)
    (k_Going_is_there : PySem.W.keepIn K (.ref f_Going_is_there) = true)
    {f_Going_pass_cell : Addr} {od_Going_pass_cell an_Going_pass_cell : Option Addr} {sl_Going_pass_cell : Array (Option Value)} {oc_Going_pass_cell kV_Going_pass_cell dc_Going_pass_cell pm_Going_pass_cell cd_Going_pass_cell ct_Going_pass_cell : Value}
    (a_Going_pass_cell : PySem.W.findIn K (.ref c_Going) "pass_cell" = some (some (.ref f_Going_pass_cell)))
    (i_Going_pass_cell : PySem.W.isFn K (.ref f_Going_pass_cell) = true)
    (l_Going_pass_cell : K.lookup f_Going_pass_cell = some ⟨oc_Going_pass_cell, od_Going_pass_cell, .func (PySem.W.fnOf "pass_cell" "Going.pass_cell" (defArgs s_Going_pass_cell) (defBody s_Going_pass_cell) (defScope s_Going_pass_cell) .none kV_Going_pass_cell dc_Going_pass_cell pm_Going_pass_cell an_Going_pass_cell cd_Going_pass_cell ct_Going_pass_cell), sl_Going_pass_cell⟩)
    (c_Going_pass_cell : PySem.W.codeIn K cd_Going_pass_cell "Going.pass_cell" = true)
    (k_Going_pass_cell : PySem.W.keepIn K (.ref f_Going_pass_cell) = true)
    {f_Going_go : Addr} {od_Going_go an_Going_go : Option Addr} {sl_Going_go : Array (Option Value)} {oc_Going_go kV_Going_go dc_Going_go pm_Going_go cd_Going_go ct_Going_go : Value}
    (a_Going_go : PySem.W.findIn K (.ref c_Going) "go" = some (some (.ref f_Going_go)))
    (i_Going_go : PySem.W.isFn K (.ref f_Going_go) = true)
    (l_Going_go : K.lookup f_Going_go = some ⟨oc_Going_go, od_Going_go, .func (PySem.W.fnOf "go" "Going.go" (defArgs s_Going_go) (defBody s_Going_go) (defScope s_Going_go) .none kV_Going_go dc_Going_go pm_Going_go an_Going_go cd_Going_go ct_Going_go), sl_Going_go⟩)
    (c_Going_go : PySem.W.codeIn K cd_Going_go "Going.go" = true)
    (k_Going_go : PySem.W.keepIn K (.ref f_Going_go) = true)
    {f_comes_to : Addr} {od_comes_to an_comes_to : Option Addr} {sl_comes_to : Array (Option Value)} {oc_comes_to kV_comes_to dc_comes_to pm_comes_to cd_comes_to ct_comes_to : Value}
    (a_comes_to : PySem.W.nsIn K mainGlobals "comes_to" = some (some (.ref f_comes_to)))
    (l_comes_to : K.lookup f_comes_to = some ⟨oc_comes_to, od_comes_to, .func (PySem.W.fnOf "comes_to" "comes_to" (defArgs s_comes_to) (defBody s_comes_to) (defScope s_comes_to) .none kV_comes_to dc_comes_to pm_comes_to an_comes_to cd_comes_to ct_comes_to), sl_comes_to⟩)
    (c_comes_to : PySem.W.codeIn K cd_comes_to "comes_to" = true)
    (k_comes_to : PySem.W.keepIn K (.ref f_comes_to) = true)
    {f_l_cell : Addr} {od_l_cell an_l_cell : Option Addr} {sl_l_cell : Array (Option Value)} {oc_l_cell kV_l_cell dc_l_cell pm_l_cell cd_l_cell ct_l_cell : Value}
    (a_l_cell : PySem.W.nsIn K mainGlobals "_law_cell" = some (some (.ref f_l_cell)))
    (l_l_cell : K.lookup f_l_cell = some ⟨oc_l_cell, od_l_cell, .func (PySem.W.fnOf "_law_cell" "_law_cell" (defArgs s_l_cell) (defBody s_l_cell) (defScope s_l_cell) .none kV_l_cell dc_l_cell pm_l_cell an_l_cell cd_l_cell ct_l_cell), sl_l_cell⟩)
    (c_l_cell : PySem.W.codeIn K cd_l_cell "_law_cell" = true)
    (k_l_cell : PySem.W.keepIn K (.ref f_l_cell) = true)
    {f_l_value : Addr} {od_l_value an_l_value : Option Addr} {sl_l_value : Array (Option Value)} {oc_l_value kV_l_value dc_l_value pm_l_value cd_l_value ct_l_value : Value}
    (a_l_value : PySem.W.nsIn K mainGlobals "_law_value" = some (some (.ref f_l_value)))
    (l_l_value : K.lookup f_l_value = some ⟨oc_l_value, od_l_value, .func (PySem.W.fnOf "_law_value" "_law_value" (defArgs s_l_value) (defBody s_l_value) (defScope s_l_value) .none kV_l_value dc_l_value pm_l_value an_l_value cd_l_value ct_l_value), sl_l_value⟩)
    (c_l_value : PySem.W.codeIn K cd_l_value "_law_value" = true)
    (k_l_value : PySem.W.keepIn K (.ref f_l_value) = true)
    {f_l_values : Addr} {od_l_values an_l_values : Option Addr} {sl_l_values : Array (Option Value)} {oc_l_values kV_l_values dc_l_values pm_l_values cd_l_values ct_l_values : Value}
    (a_l_values : PySem.W.nsIn K mainGlobals "_law_values" = some (some (.ref f_l_values)))
    (l_l_values : K.lookup f_l_values = some ⟨oc_l_values, od_l_values, .func (PySem.W.fnOf "_law_values" "_law_values" (defArgs s_l_values) (defBody s_l_values) (defScope s_l_values) .none kV_l_values dc_l_values pm_l_values an_l_values cd_l_values ct_l_values), sl_l_values⟩)
    (c_l_values : PySem.W.codeIn K cd_l_values "_law_values" = true)
    (k_l_values : PySem.W.keepIn K (.ref f_l_values) = true)
    {f_l_row : Addr} {od_l_row an_l_row : Option Addr} {sl_l_row : Array (Option Value)} {oc_l_row kV_l_row dc_l_row pm_l_row cd_l_row ct_l_row : Value}
    (a_l_row : PySem.W.nsIn K mainGlobals "_law_row" = some (some (.ref f_l_row)))
    (l_l_row : K.lookup f_l_row = some ⟨oc_l_row, od_l_row, .func (PySem.W.fnOf "_law_row" "_law_row" (defArgs s_l_row) (defBody s_l_row) (defScope s_l_row) .none kV_l_row dc_l_row pm_l_row an_l_row cd_l_row ct_l_row), sl_l_row⟩)
    (c_l_row : PySem.W.codeIn K cd_l_row "_law_row" = true)
    (k_l_row : PySem.W.keepIn K (.ref f_l_row) = true)
    {f_l_value_at : Addr} {od_l_value_at an_l_value_at : Option Addr} {sl_l_value_at : Array (Option Value)} {oc_l_value_at kV_l_value_at dc_l_value_at pm_l_value_at cd_l_value_at ct_l_value_at : Value}
    (a_l_value_at : PySem.W.nsIn K mainGlobals "_law_value_at" = some (some (.ref f_l_value_at)))
    (l_l_value_at : K.lookup f_l_value_at = some ⟨oc_l_value_at, od_l_value_at, .func (PySem.W.fnOf "_law_value_at" "_law_value_at" (defArgs s_l_value_at) (defBody s_l_value_at) (defScope s_l_value_at) .none kV_l_value_at dc_l_value_at pm_l_value_at an_l_value_at cd_l_value_at ct_l_value_at), sl_l_value_at⟩)
    (c_l_value_at : PySem.W.codeIn K cd_l_value_at "_law_value_at" = true)
    (k_l_value_at : PySem.W.keepIn K (.ref f_l_value_at) = true)
    {f_l_walker : Addr} {od_l_walker an_l_walker : Option Addr} {sl_l_walker : Array (Option Value)} {oc_l_walker kV_l_walker dc_l_walker pm_l_walker cd_l_walker ct_l_walker : Value}
    (a_l_walker : PySem.W.nsIn K mainGlobals "_law_walker" = some (some (.ref f_l_walker)))
    (l_l_walker : K.lookup f_l_walker = some ⟨oc_l_walker, od_l_walker, .func (PySem.W.fnOf "_law_walker" "_law_walker" (defArgs s_l_walker) (defBody s_l_walker) (defScope s_l_walker) .none kV_l_walker dc_l_walker pm_l_walker an_l_walker cd_l_walker ct_l_walker), sl_l_walker⟩)
    (c_l_walker : PySem.W.codeIn K cd_l_walker "_law_walker" = true)
    (k_l_walker : PySem.W.keepIn K (.ref f_l_walker) = true)
    {f_l_steps : Addr} {od_l_steps an_l_steps : Option Addr} {sl_l_steps : Array (Option Value)} {oc_l_steps kV_l_steps dc_l_steps pm_l_steps cd_l_steps ct_l_steps : Value}
    (a_l_steps : PySem.W.nsIn K mainGlobals "_law_steps" = some (some (.ref f_l_steps)))
    (l_l_steps : K.lookup f_l_steps = some ⟨oc_l_steps, od_l_steps, .func (PySem.W.fnOf "_law_steps" "_law_steps" (defArgs s_l_steps) (defBody s_l_steps) (defScope s_l_steps) .none kV_l_steps dc_l_steps pm_l_steps an_l_steps cd_l_steps ct_l_steps), sl_l_steps⟩)
    (c_l_steps : PySem.W.codeIn K cd_l_steps "_law_steps" = true)
    (k_l_steps : PySem.W.keepIn K (.ref f_l_steps) = true)
    {f_l_round : Addr} {od_l_round an_l_round : Option Addr} {sl_l_round : Array (Option Value)} {oc_l_round kV_l_round dc_l_round pm_l_round cd_l_round ct_l_round : Value}
    (a_l_round : PySem.W.nsIn K mainGlobals "_law_round" = some (some (.ref f_l_round)))
    (l_l_round : K.lookup f_l_round = some ⟨oc_l_round, od_l_round, .func (PySem.W.fnOf "_law_round" "_law_round" (defArgs s_l_round) (defBody s_l_round) (defScope s_l_round) .none kV_l_round dc_l_round pm_l_round an_l_round cd_l_round ct_l_round), sl_l_round⟩)
    (c_l_round : PySem.W.codeIn K cd_l_round "_law_round" = true)
    (k_l_round : PySem.W.keepIn K (.ref f_l_round) = true)
    {f_l_along : Addr} {od_l_along an_l_along : Option Addr} {sl_l_along : Array (Option Value)} {oc_l_along kV_l_along dc_l_along pm_l_along cd_l_along ct_l_along : Value}
    (a_l_along : PySem.W.nsIn K mainGlobals "_law_along" = some (some (.ref f_l_along)))
    (l_l_along : K.lookup f_l_along = some ⟨oc_l_along, od_l_along, .func (PySem.W.fnOf "_law_along" "_law_along" (defArgs s_l_along) (defBody s_l_along) (defScope s_l_along) .none kV_l_along dc_l_along pm_l_along an_l_along cd_l_along ct_l_along), sl_l_along⟩)
    (c_l_along : PySem.W.codeIn K cd_l_along "_law_along" = true)
    (k_l_along : PySem.W.keepIn K (.ref f_l_along) = true)
    {f_l_state_at : Addr} {od_l_state_at an_l_state_at : Option Addr} {sl_l_state_at : Array (Option Value)} {oc_l_state_at kV_l_state_at dc_l_state_at pm_l_state_at cd_l_state_at ct_l_state_at : Value}
    (a_l_state_at : PySem.W.nsIn K mainGlobals "_law_state_at" = some (some (.ref f_l_state_at)))
    (l_l_state_at : K.lookup f_l_state_at = some ⟨oc_l_state_at, od_l_state_at, .func (PySem.W.fnOf "_law_state_at" "_law_state_at" (defArgs s_l_state_at) (defBody s_l_state_at) (defScope s_l_state_at) .none kV_l_state_at dc_l_state_at pm_l_state_at an_l_state_at cd_l_state_at ct_l_state_at), sl_l_state_at⟩)
    (c_l_state_at : PySem.W.codeIn K cd_l_state_at "_law_state_at" = true)
    (k_l_state_at : PySem.W.keepIn K (.ref f_l_state_at) = true)
    {f_l_met : Addr} {od_l_met an_l_met : Option Addr} {sl_l_met : Array (Option Value)} {oc_l_met kV_l_met dc_l_met pm_l_met cd_l_met ct_l_met : Value}
    (a_l_met : PySem.W.nsIn K mainGlobals "_law_met" = some (some (.ref f_l_met)))
    (l_l_met : K.lookup f_l_met = some ⟨oc_l_met, od_l_met, .func (PySem.W.fnOf "_law_met" "_law_met" (defArgs s_l_met) (defBody s_l_met) (defScope s_l_met) .none kV_l_met dc_l_met pm_l_met an_l_met cd_l_met ct_l_met), sl_l_met⟩)
    (c_l_met : PySem.W.codeIn K cd_l_met "_law_met" = true)
    (k_l_met : PySem.W.keepIn K (.ref f_l_met) = true)
    {f_l_due : Addr} {od_l_due an_l_due : Option Addr} {sl_l_due : Array (Option Value)} {oc_l_due kV_l_due dc_l_due pm_l_due cd_l_due ct_l_due : Value}
    (a_l_due : PySem.W.nsIn K mainGlobals "_law_due" = some (some (.ref f_l_due)))
    (l_l_due : K.lookup f_l_due = some ⟨oc_l_due, od_l_due, .func (PySem.W.fnOf "_law_due" "_law_due" (defArgs s_l_due) (defBody s_l_due) (defScope s_l_due) .none kV_l_due dc_l_due pm_l_due an_l_due cd_l_due ct_l_due), sl_l_due⟩)
    (c_l_due : PySem.W.codeIn K cd_l_due "_law_due" = true)
    (k_l_due : PySem.W.keepIn K (.ref f_l_due) = true)
    {f_law : Addr} {od_law an_law : Option Addr} {sl_law : Array (Option Value)} {oc_law kV_law dc_law pm_law cd_law ct_law : Value}
    (a_law : PySem.W.nsIn K mainGlobals "law" = some (some (.ref f_law)))
    (l_law : K.lookup f_law = some ⟨oc_law, od_law, .func (PySem.W.fnOf "law" "law" (defArgs s_law) (defBody s_law) (defScope s_law) .none kV_law dc_law pm_law an_law cd_law ct_law), sl_law⟩)
    (c_law : PySem.W.codeIn K cd_law "law" = true)
    (k_law : PySem.W.keepIn K (.ref f_law) = true)
    (z_all : PySem.W.nsIn K mainGlobals "all" = some none)
    (z_bool : PySem.W.nsIn K mainGlobals "bool" = some none)
    (z_dict : PySem.W.nsIn K mainGlobals "dict" = some none)
    (z_int : PySem.W.nsIn K mainGlobals "int" = some none)
    (z_isinstance : PySem.W.nsIn K mainGlobals "isinstance" = some none)
    (z_len : PySem.W.nsIn K mainGlobals "len" = some none)
    (z_list : PySem.W.nsIn K mainGlobals "list" = some none)
    (z_max : PySem.W.nsIn K mainGlobals "max" = some none)
    (z_min : PySem.W.nsIn K mainGlobals "min" = some none)
    (z_range : PySem.W.nsIn K mainGlobals "range" = some none)
    (z_tuple : PySem.W.nsIn K mainGlobals "tuple" = some none)
    {tk_MOST_STATES : Tok}
    (z_MOST_STATES : PySem.W.nsIn K mainGlobals "MOST_STATES" = some (some (.int 30 tk_MOST_STATES)))
    {tk_MOST_VALUES : Tok}
    (z_MOST_VALUES : PySem.W.nsIn K mainGlobals "MOST_VALUES" = some (some (.int 4000 tk_MOST_VALUES)))
    (gcn : PySem.W.specialIn K (.builtin "object.__class__") "__get__" = some (some (.builtin "getset_descriptor.__get__")))
    (gct : PySem.W.takesIn K (.builtin "object.__class__") = some true)
    (xi_NoPlace : PySem.W.excIn K c_NoPlace [.type "ValueError", .type "Exception", .type "BaseException", .type "object"] "ValueError.__new__" = true)
    (kp_NoPlace : PySem.W.keepIn K (.ref c_NoPlace) = true)
    (xb_NoPlace : PySem.W.subIn K (.ref c_NoPlace) (.type "BaseException") = some true)
    (ty_NoPlace : PySem.W.typeIn K (.ref c_NoPlace) = some (.type "type"))
    (xi_NoRow : PySem.W.excIn K c_NoRow [.type "ValueError", .type "Exception", .type "BaseException", .type "object"] "ValueError.__new__" = true)
    (kp_NoRow : PySem.W.keepIn K (.ref c_NoRow) = true)
    (xb_NoRow : PySem.W.subIn K (.ref c_NoRow) (.type "BaseException") = some true)
    (ty_NoRow : PySem.W.typeIn K (.ref c_NoRow) = some (.type "type"))
    (xi_NoState : PySem.W.excIn K c_NoState [.type "ValueError", .type "Exception", .type "BaseException", .type "object"] "ValueError.__new__" = true)
    (kp_NoState : PySem.W.keepIn K (.ref c_NoState) = true)
    (xb_NoState : PySem.W.subIn K (.ref c_NoState) (.type "BaseException") = some true)
    (ty_NoState : PySem.W.typeIn K (.ref c_NoState) = some (.type "type"))
    (xi_NoWalker : PySem.W.excIn K c_NoWalker [.type "ValueError", .type "Exception", .type "BaseException", .type "object"] "ValueError.__new__" = true)
    (kp_NoWalker : PySem.W.keepIn K (.ref c_NoWalker) = true)
    (xb_NoWalker : PySem.W.subIn K (.ref c_NoWalker) (.type "BaseException") = some true)
    (ty_NoWalker : PySem.W.typeIn K (.ref c_NoWalker) = some (.type "type"))
    (eg_NoPlace : PySem.W.findIn K (.ref c_NoPlace) "__getattribute__" = some (some (.builtin "BaseException.__getattribute__")))
    (ek_NoPlace : PySem.W.findIn K (.ref c_NoPlace) "__getattr__" = some none)
    (hd_NoPlace : PySem.W.hasDictIn K c_NoPlace = true)
    (ec_NoPlace : PySem.W.findIn K (.ref c_NoPlace) "__class__" = some (some (.builtin "object.__class__")))
    (em_NoPlace : PySem.W.mroIn K c_NoPlace (.type "object") = some true)
    (eg_NoRow : PySem.W.findIn K (.ref c_NoRow) "__getattribute__" = some (some (.builtin "BaseException.__getattribute__")))
    (ek_NoRow : PySem.W.findIn K (.ref c_NoRow) "__getattr__" = some none)
    (hd_NoRow : PySem.W.hasDictIn K c_NoRow = true)
    (ec_NoRow : PySem.W.findIn K (.ref c_NoRow) "__class__" = some (some (.builtin "object.__class__")))
    (em_NoRow : PySem.W.mroIn K c_NoRow (.type "object") = some true)
    (eg_NoState : PySem.W.findIn K (.ref c_NoState) "__getattribute__" = some (some (.builtin "BaseException.__getattribute__")))
    (ek_NoState : PySem.W.findIn K (.ref c_NoState) "__getattr__" = some none)
    (hd_NoState : PySem.W.hasDictIn K c_NoState = true)
    (ec_NoState : PySem.W.findIn K (.ref c_NoState) "__class__" = some (some (.builtin "object.__class__")))
    (em_NoState : PySem.W.mroIn K c_NoState (.type "object") = some true)
    (eg_NoWalker : PySem.W.findIn K (.ref c_NoWalker) "__getattribute__" = some (some (.builtin "BaseException.__getattribute__")))
    (ek_NoWalker : PySem.W.findIn K (.ref c_NoWalker) "__getattr__" = some none)
    (hd_NoWalker : PySem.W.hasDictIn K c_NoWalker = true)
    (ec_NoWalker : PySem.W.findIn K (.ref c_NoWalker) "__class__" = some (some (.builtin "object.__class__")))
    (em_NoWalker : PySem.W.mroIn K c_NoWalker (.type "object") = some true)
    (pg_Row : PySem.W.plainGet K c_Row Str.empty = true)
    (hd_Row : PySem.W.hasDictIn K c_Row = true)
    (po_Row : PySem.W.plainOver K c_Row = true)
    (sa_Row : PySem.W.findIn K (.ref c_Row) "__setattr__" = some (some (.builtin "object.__setattr__")))
    (ec_Row : PySem.W.findIn K (.ref c_Row) "__class__" = some (some (.builtin "object.__class__")))
    (em_Row : PySem.W.mroIn K c_Row (.type "object") = some true)
    (na_Row_left : PySem.W.findIn K (.ref c_Row) "left" = some none)
    (na_Row_middle : PySem.W.findIn K (.ref c_Row) "middle" = some none)
    (na_Row_first : PySem.W.findIn K (.ref c_Row) "first" = some none)
    (na_Row_right : PySem.W.findIn K (.ref c_Row) "right" = some none)
    (pg_Walker : PySem.W.plainGet K c_Walker Str.empty = true)
    (hd_Walker : PySem.W.hasDictIn K c_Walker = true)
    (po_Walker : PySem.W.plainOver K c_Walker = true)
    (sa_Walker : PySem.W.findIn K (.ref c_Walker) "__setattr__" = some (some (.builtin "object.__setattr__")))
    (ec_Walker : PySem.W.findIn K (.ref c_Walker) "__class__" = some (some (.builtin "object.__class__")))
    (em_Walker : PySem.W.mroIn K c_Walker (.type "object") = some true)
    (na_Walker_states : PySem.W.findIn K (.ref c_Walker) "states" = some none)
    (na_Walker_table : PySem.W.findIn K (.ref c_Walker) "table" = some none)
    (pg_Going : PySem.W.plainGet K c_Going Str.empty = true)
    (hd_Going : PySem.W.hasDictIn K c_Going = true)
    (po_Going : PySem.W.plainOver K c_Going = true)
    (sa_Going : PySem.W.findIn K (.ref c_Going) "__setattr__" = some (some (.builtin "object.__setattr__")))
    (ec_Going : PySem.W.findIn K (.ref c_Going) "__class__" = some (some (.builtin "object.__class__")))
    (em_Going : PySem.W.mroIn K c_Going (.type "object") = some true)
    (na_Going_walker : PySem.W.findIn K (.ref c_Going) "walker" = some none)
    (na_Going_state : PySem.W.findIn K (.ref c_Going) "state" = some none)
    (na_Going_goal : PySem.W.findIn K (.ref c_Going) "goal" = some none)
    (na_Going_done : PySem.W.findIn K (.ref c_Going) "done" = some none)
    (mk_Going : PySem.W.makesIn K c_Going = true)
    (kp_Going : PySem.W.keepIn K (.ref c_Going) = true)
    (mk_Row : PySem.W.makesIn K c_Row = true)
    (kp_Row : PySem.W.keepIn K (.ref c_Row) = true)
    (mk_Walker : PySem.W.makesIn K c_Walker = true)
    (kp_Walker : PySem.W.keepIn K (.ref c_Walker) = true)
    (hnd : List.Nodup ([c_FarError, c_NoPlace, c_NoRow, c_NoWalker, c_NoState, c_Row, c_Walker, c_Going] : List Addr))
    : ∃ fd : FuncData, (∀ (s : Shared) (v : Value), BindsTo s fd ⟨[v], []⟩ [("_law_script", v)]) ∧ ∀ base : Heap, K.In base → base.Ns mainGlobals mg → FnOk l.prog w K mg base CX0 7 fa fd ["_law_script"] (spD K R_law) := by
  have e := hfa.symm.trans (PySem.W.mg_of X G a_law)
  cases e
  let T : Txt K mg (Zs.of [c_FarError, c_NoPlace, c_NoRow, c_NoWalker, c_NoState, c_Row, c_Walker, c_Going] hnd) := {
    a_is_place := _, d_is_place := _, F_is_place := fun_mk (st := s_is_place) l_is_place c_is_place k_is_place, b_is_place := (fun_mk (st := s_is_place) l_is_place c_is_place k_is_place).binds (fun _ _ _ _ _ _ us hl => match us, hl with | [_], _ => rfl), g_is_place := PySem.W.mg_of X G a_is_place,
    a_is_value := _, d_is_value := _, F_is_value := fun_mk (st := s_is_value) l_is_value c_is_value k_is_value, b_is_value := (fun_mk (st := s_is_value) l_is_value c_is_value k_is_value).binds (fun _ _ _ _ _ _ us hl => match us, hl with | [_], _ => rfl), g_is_value := PySem.W.mg_of X G a_is_value,
    a_are_values := _, d_are_values := _, F_are_values := fun_mk (st := s_are_values) l_are_values c_are_values k_are_values, b_are_values := (fun_mk (st := s_are_values) l_are_values c_are_values k_are_values).binds (fun _ _ _ _ _ _ us hl => match us, hl with | [_, _], _ => rfl), g_are_values := PySem.W.mg_of X G a_are_values,
    a_need_place := _, d_need_place := _, F_need_place := fun_mk (st := s_need_place) l_need_place c_need_place k_need_place, b_need_place := (fun_mk (st := s_need_place) l_need_place c_need_place k_need_place).binds (fun _ _ _ _ _ _ us hl => match us, hl with | [_], _ => rfl), g_need_place := PySem.W.mg_of X G a_need_place,
    a_Row_init := _, d_Row_init := _, F_Row_init := fun_mk (st := s_Row_init) l_Row_init c_Row_init k_Row_init, b_Row_init := (fun_mk (st := s_Row_init) l_Row_init c_Row_init k_Row_init).binds (fun _ _ _ _ _ _ us hl => match us, hl with | [_, _, _, _, _], _ => rfl),
    a_Row_told := _, d_Row_told := _, F_Row_told := fun_mk (st := s_Row_told) l_Row_told c_Row_told k_Row_told, b_Row_told := (fun_mk (st := s_Row_told) l_Row_told c_Row_told k_Row_told).binds (fun _ _ _ _ _ _ us hl => match us, hl with | [_], _ => rfl),
    a_is_between := _, d_is_between := _, F_is_between := fun_mk (st := s_is_between) l_is_between c_is_between k_is_between, b_is_between := (fun_mk (st := s_is_between) l_is_between c_is_between k_is_between).binds (fun _ _ _ _ _ _ us hl => match us, hl with | [_, _, _], _ => rfl), g_is_between := PySem.W.mg_of X G a_is_between,
    a_is_pair := _, d_is_pair := _, F_is_pair := fun_mk (st := s_is_pair) l_is_pair c_is_pair k_is_pair, b_is_pair := (fun_mk (st := s_is_pair) l_is_pair c_is_pair k_is_pair).binds (fun _ _ _ _ _ _ us hl => match us, hl with | [_, _], _ => rfl), g_is_pair := PySem.W.mg_of X G a_is_pair,
    a_is_table := _, d_is_table := _, F_is_table := fun_mk (st := s_is_table) l_is_table c_is_table k_is_table, b_is_table := (fun_mk (st := s_is_table) l_is_table c_is_table k_is_table).binds (fun _ _ _ _ _ _ us hl => match us, hl with | [_, _], _ => rfl), g_is_table := PySem.W.mg_of X G a_is_table,
    a_Walker_init := _, d_Walker_init := _, F_Walker_init := fun_mk (st := s_Walker_init) l_Walker_init c_Walker_init k_Walker_init, b_Walker_init := (fun_mk (st := s_Walker_init) l_Walker_init c_Walker_init k_Walker_init).binds (fun _ _ _ _ _ _ us hl => match us, hl with | [_, _, _], _ => rfl),
    a_Walker_step := _, d_Walker_step := _, F_Walker_step := fun_mk (st := s_Walker_step) l_Walker_step c_Walker_step k_Walker_step, b_Walker_step := (fun_mk (st := s_Walker_step) l_Walker_step c_Walker_step k_Walker_step).binds (fun _ _ _ _ _ _ us hl => match us, hl with | [_, _, _], _ => rfl),
    a_need_state := _, d_need_state := _, F_need_state := fun_mk (st := s_need_state) l_need_state c_need_state k_need_state, b_need_state := (fun_mk (st := s_need_state) l_need_state c_need_state k_need_state).binds (fun _ _ _ _ _ _ us hl => match us, hl with | [_, _], _ => rfl), g_need_state := PySem.W.mg_of X G a_need_state,
    a_stretches := _, d_stretches := _, F_stretches := fun_mk (st := s_stretches) l_stretches c_stretches k_stretches, b_stretches := (fun_mk (st := s_stretches) l_stretches c_stretches k_stretches).binds (fun _ _ _ _ _ _ us hl => match us, hl with | [_, _, _], _ => rfl), g_stretches := PySem.W.mg_of X G a_stretches,
    a_Going_init := _, d_Going_init := _, F_Going_init := fun_mk (st := s_Going_init) l_Going_init c_Going_init k_Going_init, b_Going_init := (fun_mk (st := s_Going_init) l_Going_init c_Going_init k_Going_init).binds (fun _ _ _ _ _ _ us hl => match us, hl with | [_, _, _, _], _ => rfl),
    a_Going_is_there := _, d_Going_is_there := _, F_Going_is_there := fun_mk (st := s_Going_is_there) l_Going_is_there c_Going_is_there k_Going_is_there, b_Going_is_there := (fun_mk (st := s_Going_is_there) l_Going_is_there c_Going_is_there k_Going_is_there).binds (fun _ _ _ _ _ _ us hl => match us, hl with | [_], _ => rfl),
    a_Going_pass_cell := _, d_Going_pass_cell := _, F_Going_pass_cell := fun_mk (st := s_Going_pass_cell) l_Going_pass_cell c_Going_pass_cell k_Going_pass_cell, b_Going_pass_cell := (fun_mk (st := s_Going_pass_cell) l_Going_pass_cell c_Going_pass_cell k_Going_pass_cell).binds (fun _ _ _ _ _ _ us hl => match us, hl with | [_, _], _ => rfl),
    a_Going_go := _, d_Going_go := _, F_Going_go := fun_mk (st := s_Going_go) l_Going_go c_Going_go k_Going_go, b_Going_go := (fun_mk (st := s_Going_go) l_Going_go c_Going_go k_Going_go).binds (fun _ _ _ _ _ _ us hl => match us, hl with | [_, _], _ => rfl),
    a_comes_to := _, d_comes_to := _, F_comes_to := fun_mk (st := s_comes_to) l_comes_to c_comes_to k_comes_to, b_comes_to := (fun_mk (st := s_comes_to) l_comes_to c_comes_to k_comes_to).binds (fun _ _ _ _ _ _ us hl => match us, hl with | [_, _, _, _, _], _ => rfl), g_comes_to := PySem.W.mg_of X G a_comes_to,
    a_l_cell := _, d_l_cell := _, F_l_cell := fun_mk (st := s_l_cell) l_l_cell c_l_cell k_l_cell, b_l_cell := (fun_mk (st := s_l_cell) l_l_cell c_l_cell k_l_cell).binds (fun _ _ _ _ _ _ us hl => match us, hl with | [_, _], _ => rfl), g_l_cell := PySem.W.mg_of X G a_l_cell,
    a_l_value := _, d_l_value := _, F_l_value := fun_mk (st := s_l_value) l_l_value c_l_value k_l_value, b_l_value := (fun_mk (st := s_l_value) l_l_value c_l_value k_l_value).binds (fun _ _ _ _ _ _ us hl => match us, hl with | [_], _ => rfl), g_l_value := PySem.W.mg_of X G a_l_value,
    a_l_values := _, d_l_values := _, F_l_values := fun_mk (st := s_l_values) l_l_values c_l_values k_l_values, b_l_values := (fun_mk (st := s_l_values) l_l_values c_l_values k_l_values).binds (fun _ _ _ _ _ _ us hl => match us, hl with | [_, _, _], _ => rfl), g_l_values := PySem.W.mg_of X G a_l_values,
    a_l_row := _, d_l_row := _, F_l_row := fun_mk (st := s_l_row) l_l_row c_l_row k_l_row, b_l_row := (fun_mk (st := s_l_row) l_l_row c_l_row k_l_row).binds (fun _ _ _ _ _ _ us hl => match us, hl with | [_, _], _ => rfl), g_l_row := PySem.W.mg_of X G a_l_row,
    a_l_value_at := _, d_l_value_at := _, F_l_value_at := fun_mk (st := s_l_value_at) l_l_value_at c_l_value_at k_l_value_at, b_l_value_at := (fun_mk (st := s_l_value_at) l_l_value_at c_l_value_at k_l_value_at).binds (fun _ _ _ _ _ _ us hl => match us, hl with | [_, _], _ => rfl), g_l_value_at := PySem.W.mg_of X G a_l_value_at,
    a_l_walker := _, d_l_walker := _, F_l_walker := fun_mk (st := s_l_walker) l_l_walker c_l_walker k_l_walker, b_l_walker := (fun_mk (st := s_l_walker) l_l_walker c_l_walker k_l_walker).binds (fun _ _ _ _ _ _ us hl => match us, hl with | [_, _], _ => rfl), g_l_walker := PySem.W.mg_of X G a_l_walker,
    a_l_steps := _, d_l_steps := _, F_l_steps := fun_mk (st := s_l_steps) l_l_steps c_l_steps k_l_steps, b_l_steps := (fun_mk (st := s_l_steps) l_l_steps c_l_steps k_l_steps).binds (fun _ _ _ _ _ _ us hl => match us, hl with | [_, _, _], _ => rfl), g_l_steps := PySem.W.mg_of X G a_l_steps,
    a_l_round := _, d_l_round := _, F_l_round := fun_mk (st := s_l_round) l_l_round c_l_round k_l_round, b_l_round := (fun_mk (st := s_l_round) l_l_round c_l_round k_l_round).binds (fun _ _ _ _ _ _ us hl => match us, hl with | [_, _, _, _], _ => rfl), g_l_round := PySem.W.mg_of X G a_l_round,
    a_l_along := _, d_l_along := _, F_l_along := fun_mk (st := s_l_along) l_l_along c_l_along k_l_along, b_l_along := (fun_mk (st := s_l_along) l_l_along c_l_along k_l_along).binds (fun _ _ _ _ _ _ us hl => match us, hl with | [_, _, _, _, _], _ => rfl), g_l_along := PySem.W.mg_of X G a_l_along,
    a_l_state_at := _, d_l_state_at := _, F_l_state_at := fun_mk (st := s_l_state_at) l_l_state_at c_l_state_at k_l_state_at, b_l_state_at := (fun_mk (st := s_l_state_at) l_l_state_at c_l_state_at k_l_state_at).binds (fun _ _ _ _ _ _ us hl => match us, hl with | [_, _, _, _, _], _ => rfl), g_l_state_at := PySem.W.mg_of X G a_l_state_at,
    a_l_met := _, d_l_met := _, F_l_met := fun_mk (st := s_l_met) l_l_met c_l_met k_l_met, b_l_met := (fun_mk (st := s_l_met) l_l_met c_l_met k_l_met).binds (fun _ _ _ _ _ _ us hl => match us, hl with | [_, _, _, _, _, _], _ => rfl), g_l_met := PySem.W.mg_of X G a_l_met,
    a_l_due := _, d_l_due := _, F_l_due := fun_mk (st := s_l_due) l_l_due c_l_due k_l_due, b_l_due := (fun_mk (st := s_l_due) l_l_due c_l_due k_l_due).binds (fun _ _ _ _ _ _ us hl => match us, hl with | [_, _, _, _, _], _ => rfl), g_l_due := PySem.W.mg_of X G a_l_due,
    a_law := _, d_law := _, F_law := fun_mk (st := s_law) l_law c_law k_law, b_law := (fun_mk (st := s_law) l_law c_law k_law).binds (fun _ _ _ _ _ _ us hl => match us, hl with | [_], _ => rfl), g_law := PySem.W.mg_of X G a_law,
    n_all := PySem.W.mg_none_of X G z_all,
    n_bool := PySem.W.mg_none_of X G z_bool,
    n_dict := PySem.W.mg_none_of X G z_dict,
    n_int := PySem.W.mg_none_of X G z_int,
    n_isinstance := PySem.W.mg_none_of X G z_isinstance,
    n_len := PySem.W.mg_none_of X G z_len,
    n_list := PySem.W.mg_none_of X G z_list,
    n_max := PySem.W.mg_none_of X G z_max,
    n_min := PySem.W.mg_none_of X G z_min,
    n_range := PySem.W.mg_none_of X G z_range,
    n_tuple := PySem.W.mg_none_of X G z_tuple,
    t_MOST_STATES := _, g_MOST_STATES := PySem.W.mg_of X G z_MOST_STATES,
    t_MOST_VALUES := _, g_MOST_VALUES := PySem.W.mg_of X G z_MOST_VALUES,
    g_FarError := PySem.W.mg_of X G ga_FarError,
    g_NoPlace := PySem.W.mg_of X G ga_NoPlace,
    g_NoRow := PySem.W.mg_of X G ga_NoRow,
    g_NoWalker := PySem.W.mg_of X G ga_NoWalker,
    g_NoState := PySem.W.mg_of X G ga_NoState,
    g_Row := PySem.W.mg_of X G ga_Row,
    g_Walker := PySem.W.mg_of X G ga_Walker,
    g_Going := PySem.W.mg_of X G ga_Going,
    xi_NoPlace := xi_NoPlace, kp_NoPlace := kp_NoPlace, xb_NoPlace := xb_NoPlace, ty_NoPlace := ty_NoPlace,
    xi_NoRow := xi_NoRow, kp_NoRow := kp_NoRow, xb_NoRow := xb_NoRow, ty_NoRow := ty_NoRow,
    xi_NoState := xi_NoState, kp_NoState := kp_NoState, xb_NoState := xb_NoState, ty_NoState := ty_NoState,
    xi_NoWalker := xi_NoWalker, kp_NoWalker := kp_NoWalker, xb_NoWalker := xb_NoWalker, ty_NoWalker := ty_NoWalker,
    mk_Going := ⟨mk_Going, a_Going_init, i_Going_init, kp_Going⟩,
    mk_Row := ⟨mk_Row, a_Row_init, i_Row_init, kp_Row⟩,
    mk_Walker := ⟨mk_Walker, a_Walker_init, i_Walker_init, kp_Walker⟩,
    me_Going_go := ⟨a_Going_go, i_Going_go, k_Going_go⟩,
    me_Going_is_there := ⟨a_Going_is_there, i_Going_is_there, k_Going_is_there⟩,
    me_Going_pass_cell := ⟨a_Going_pass_cell, i_Going_pass_cell, k_Going_pass_cell⟩,
    me_Row_told := ⟨a_Row_told, i_Row_told, k_Row_told⟩,
    me_Walker_step := ⟨a_Walker_step, i_Walker_step, k_Walker_step⟩,
    zf := {triv := trivial, exc_NoPlace := ⟨eg_NoPlace, ek_NoPlace, xb_NoPlace, hd_NoPlace, ec_NoPlace, gcn, gct, em_NoPlace⟩, exc_NoRow := ⟨eg_NoRow, ek_NoRow, xb_NoRow, hd_NoRow, ec_NoRow, gcn, gct, em_NoRow⟩, exc_NoState := ⟨eg_NoState, ek_NoState, xb_NoState, hd_NoState, ec_NoState, gcn, gct, em_NoState⟩, exc_NoWalker := ⟨eg_NoWalker, ek_NoWalker, xb_NoWalker, hd_NoWalker, ec_NoWalker, gcn, gct, em_NoWalker⟩, ins_Row := ⟨⟨pg_Row, hd_Row, po_Row, sa_Row⟩, ec_Row, gcn, gct, em_Row⟩, na_Row_left := na_Row_left, na_Row_middle := na_Row_middle, na_Row_first := na_Row_first, na_Row_right := na_Row_right, ins_Walker := ⟨⟨pg_Walker, hd_Walker, po_Walker, sa_Walker⟩, ec_Walker, gcn, gct, em_Walker⟩, na_Walker_states := na_Walker_states, na_Walker_table := na_Walker_table, ins_Going := ⟨⟨pg_Going, hd_Going, po_Going, sa_Going⟩, ec_Going, gcn, gct, em_Going⟩, na_Going_walker := na_Going_walker, na_Going_state := na_Going_state, na_Going_goal := na_Going_goal, na_Going_done := na_Going_done} }
  exact ⟨_, fun s v => .of_eq rfl, fun base _ _ => FnOk.imp (ok_law T) (spD_imp (law_rf (law_holds _)))⟩
theorem walk {l : PySem.W.OpenLaw} {q : Program} {loose : List Str} {XP : (Str → Option Value) → Heap → Prop} {YP : World → Heap → Prop} {d : DefRec} {K : Params → PySem.W.Frag} (hn : l.most = some 63) (hdf : d.params.defaults = [])
    (hY : ∀ (w : World) (h : Heap), YP w h → (K w.params).In h) (hT : ∀ w : World, tabsK (K w.params) = [])
    (F : ∀ (w : World) (mg : Str → Option Value) (fa : Addr) (h : Heap), (K w.params).In h → h.Ns mainGlobals mg → mg d.name = some (.ref fa) →
      ∃ fd : FuncData, (∀ (s : Shared) (u : Value), BindsTo s fd ⟨[u], []⟩ [("_law_script", u)]) ∧ ∀ base : Heap, (K w.params).In base → base.Ns mainGlobals mg → FnOk l.prog w (K w.params) mg base CX0 7 fa fd ["_law_script"] (spD (K w.params) R_law)) :
    PySem.W.WalkO q loose XP YP l.row.toRowW d [] (fun f vs => PySem.call f vs) :=
  L2.walk_of (n := 63) (k := 7) (x := "_law_script") (CX := fun _ => CX0) (sp := fun w => spD (K w.params) R_law) hn (by decide) hdf ⟨rfl, by decide, by decide⟩ hY F (fun _ _ a ns hl _ hS => law_asks hl hS (tab_none (hT _)) fun _ => rfl) fun _ _ _ _ _ z => z
end Far
open PySem PySem.W PyProof.Rows
set_option maxRecDepth 100000 in
set_option maxHeartbeats 0 in
theorem PySem.Challenge.cw_farrows_k72_whole_comes_to_holds : PySem.Challenge.rw_farrows_k72_whole_comes_to.Holds := by
  w_on; o_law; k_head; (case hw => w_witness2)
  k_fill
  refine Far.walk (l := PySem.Challenge.rw_farrows_k72_whole_comes_to) rfl rfl (fun w h Y => PySem.W.kIn_of Y) (fun w => rfl) ?F
  case F =>
    intro w mg fa h KX G hmg
    refine' Far.all_mk KX G hmg ?ga_FarError ?ga_NoPlace ?ga_NoRow ?ga_NoWalker ?ga_NoState ?ga_Row ?ga_Walker ?ga_Going ?a_is_place ?l_is_place ?c_is_place ?k_is_place ?a_is_value ?l_is_value ?c_is_value ?k_is_value ?a_are_values ?l_are_values ?c_are_values ?k_are_values ?a_need_place ?l_need_place ?c_need_place ?k_need_place ?a_Row_init ?i_Row_init ?l_Row_init ?c_Row_init ?k_Row_init ?a_Row_told ?i_Row_told ?l_Row_told ?c_Row_told ?k_Row_told ?a_is_between ?l_is_between ?c_is_between ?k_is_between ?a_is_pair ?l_is_pair ?c_is_pair ?k_is_pair ?a_is_table ?l_is_table ?c_is_table ?k_is_table ?a_Walker_init ?i_Walker_init ?l_Walker_init ?c_Walker_init ?k_Walker_init ?a_Walker_step ?i_Walker_step ?l_Walker_step ?c_Walker_step ?k_Walker_step ?a_need_state ?l_need_state ?c_need_state ?k_need_state ?a_stretches ?l_stretches ?c_stretches ?k_stretches ?a_Going_init ?i_Going_init ?l_Going_init ?c_Going_init ?k_Going_init ?a_Going_is_there ?i_Going_is_there ?l_Going_is_there ?c_Going_is_there ?k_Going_is_there ?a_Going_pass_cell ?i_Going_pass_cell ?l_Going_pass_cell ?c_Going_pass_cell ?k_Going_pass_cell ?a_Going_go ?i_Going_go ?l_Going_go ?c_Going_go ?k_Going_go ?a_comes_to ?l_comes_to ?c_comes_to ?k_comes_to ?a_l_cell ?l_l_cell ?c_l_cell ?k_l_cell ?a_l_value ?l_l_value ?c_l_value ?k_l_value ?a_l_values ?l_l_values ?c_l_values ?k_l_values ?a_l_row ?l_l_row ?c_l_row ?k_l_row ?a_l_value_at ?l_l_value_at ?c_l_value_at ?k_l_value_at ?a_l_walker ?l_l_walker ?c_l_walker ?k_l_walker ?a_l_steps ?l_l_steps ?c_l_steps ?k_l_steps ?a_l_round ?l_l_round ?c_l_round ?k_l_round ?a_l_along ?l_l_along ?c_l_along ?k_l_along ?a_l_state_at ?l_l_state_at ?c_l_state_at ?k_l_state_at ?a_l_met ?l_l_met ?c_l_met ?k_l_met ?a_l_due ?l_l_due ?c_l_due ?k_l_due ?a_law ?l_law ?c_law ?k_law ?z_all ?z_bool ?z_dict ?z_int ?z_isinstance ?z_len ?z_list ?z_max ?z_min ?z_range ?z_tuple ?z_MOST_STATES ?z_MOST_VALUES ?gcn ?gct ?xi_NoPlace ?kp_NoPlace ?xb_NoPlace ?ty_NoPlace ?xi_NoRow ?kp_NoRow ?xb_NoRow ?ty_NoRow ?xi_NoState ?kp_NoState ?xb_NoState ?ty_NoState ?xi_NoWalker ?kp_NoWalker ?xb_NoWalker ?ty_NoWalker ?eg_NoPlace ?ek_NoPlace ?hd_NoPlace ?ec_NoPlace ?em_NoPlace ?eg_NoRow ?ek_NoRow ?hd_NoRow ?ec_NoRow ?em_NoRow ?eg_NoState ?ek_NoState ?hd_NoState ?ec_NoState ?em_NoState ?eg_NoWalker ?ek_NoWalker ?hd_NoWalker ?ec_NoWalker ?em_NoWalker ?pg_Row ?hd_Row ?po_Row ?sa_Row ?ec_Row ?em_Row ?na_Row_left ?na_Row_middle ?na_Row_first ?na_Row_right ?pg_Walker ?hd_Walker ?po_Walker ?sa_Walker ?ec_Walker ?em_Walker ?na_Walker_states ?na_Walker_table ?pg_Going ?hd_Going ?po_Going ?sa_Going ?ec_Going ?em_Going ?na_Going_walker ?na_Going_state ?na_Going_goal ?na_Going_done ?mk_Going ?kp_Going ?mk_Row ?kp_Row ?mk_Walker ?kp_Walker ?hnd
    (case ga_FarError => k_is)
    (case ga_NoPlace => k_is)
    (case ga_NoRow => k_is)
    (case ga_NoWalker => k_is)
    (case ga_NoState => k_is)
    (case ga_Row => k_is)
    (case ga_Walker => k_is)
    (case ga_Going => k_is)
    (case a_is_place => k_is)
    (case l_is_place => k_is)
    (case c_is_place => k_is)
    (case k_is_place => k_is)
    (case a_is_value => k_is)
    (case l_is_value => k_is)
    (case c_is_value => k_is)
    (case k_is_value => k_is)
    (case a_are_values => k_is)
    (case l_are_values => k_is)
    (case c_are_values => k_is)
    (case k_are_values => k_is)
    (case a_need_place => k_is)
    (case l_need_place => k_is)
    (case c_need_place => k_is)
    (case k_need_place => k_is)
    (case a_Row_init => k_is)
    (case i_Row_init => k_is)
    (case l_Row_init => k_is)
    (case c_Row_init => k_is)
    (case k_Row_init => k_is)
    (case a_Row_told => k_is)
    (case i_Row_told => k_is)
    (case l_Row_told => k_is)
    (case c_Row_told => k_is)
    (case k_Row_told => k_is)
    (case a_is_between => k_is)
    (case l_is_between => k_is)
    (case c_is_between => k_is)
    (case k_is_between => k_is)
    (case a_is_pair => k_is)
    (case l_is_pair => k_is)
    (case c_is_pair => k_is)
    (case k_is_pair => k_is)
    (case a_is_table => k_is)
    (case l_is_table => k_is)
    (case c_is_table => k_is)
    (case k_is_table => k_is)
    (case a_Walker_init => k_is)
    (case i_Walker_init => k_is)
    (case l_Walker_init => k_is)
    (case c_Walker_init => k_is)
    (case k_Walker_init => k_is)
    (case a_Walker_step => k_is)
    (case i_Walker_step => k_is)
    (case l_Walker_step => k_is)
    (case c_Walker_step => k_is)
    (case k_Walker_step => k_is)
    (case a_need_state => k_is)
    (case l_need_state => k_is)
    (case c_need_state => k_is)
    (case k_need_state => k_is)
    (case a_stretches => k_is)
    (case l_stretches => k_is)
    (case c_stretches => k_is)
    (case k_stretches => k_is)
    (case a_Going_init => k_is)
    (case i_Going_init => k_is)
    (case l_Going_init => k_is)
    (case c_Going_init => k_is)
    (case k_Going_init => k_is)
    (case a_Going_is_there => k_is)
    (case i_Going_is_there => k_is)
    (case l_Going_is_there => k_is)
    (case c_Going_is_there => k_is)
    (case k_Going_is_there => k_is)
    (case a_Going_pass_cell => k_is)
    (case i_Going_pass_cell => k_is)
    (case l_Going_pass_cell => k_is)
    (case c_Going_pass_cell => k_is)
    (case k_Going_pass_cell => k_is)
    (case a_Going_go => k_is)
    (case i_Going_go => k_is)
    (case l_Going_go => k_is)
    (case c_Going_go => k_is)
    (case k_Going_go => k_is)
    (case a_comes_to => k_is)
    (case l_comes_to => k_is)
    (case c_comes_to => k_is)
    (case k_comes_to => k_is)
    (case a_l_cell => k_is)
    (case l_l_cell => k_is)
    (case c_l_cell => k_is)
    (case k_l_cell => k_is)
    (case a_l_value => k_is)
    (case l_l_value => k_is)
    (case c_l_value => k_is)
    (case k_l_value => k_is)
    (case a_l_values => k_is)
    (case l_l_values => k_is)
    (case c_l_values => k_is)
    (case k_l_values => k_is)
    (case a_l_row => k_is)
    (case l_l_row => k_is)
    (case c_l_row => k_is)
    (case k_l_row => k_is)
    (case a_l_value_at => k_is)
    (case l_l_value_at => k_is)
    (case c_l_value_at => k_is)
    (case k_l_value_at => k_is)
    (case a_l_walker => k_is)
    (case l_l_walker => k_is)
    (case c_l_walker => k_is)
    (case k_l_walker => k_is)
    (case a_l_steps => k_is)
    (case l_l_steps => k_is)
    (case c_l_steps => k_is)
    (case k_l_steps => k_is)
    (case a_l_round => k_is)
    (case l_l_round => k_is)
    (case c_l_round => k_is)
    (case k_l_round => k_is)
    (case a_l_along => k_is)
    (case l_l_along => k_is)
    (case c_l_along => k_is)
    (case k_l_along => k_is)
    (case a_l_state_at => k_is)
    (case l_l_state_at => k_is)
    (case c_l_state_at => k_is)
    (case k_l_state_at => k_is)
    (case a_l_met => k_is)
    (case l_l_met => k_is)
    (case c_l_met => k_is)
    (case k_l_met => k_is)
    (case a_l_due => k_is)
    (case l_l_due => k_is)
    (case c_l_due => k_is)
    (case k_l_due => k_is)
    (case a_law => k_is)
    (case l_law => k_is)
    (case c_law => k_is)
    (case k_law => k_is)
    (case z_all => k_is)
    (case z_bool => k_is)
    (case z_dict => k_is)
    (case z_int => k_is)
    (case z_isinstance => k_is)
    (case z_len => k_is)
    (case z_list => k_is)
    (case z_max => k_is)
    (case z_min => k_is)
    (case z_range => k_is)
    (case z_tuple => k_is)
    (case z_MOST_STATES => k_is)
    (case z_MOST_VALUES => k_is)
    (case gcn => k_is)
    (case gct => k_is)
    (case xi_NoPlace => k_exc)
    (case kp_NoPlace => k_is)
    (case xb_NoPlace => k_is)
    (case ty_NoPlace => k_is)
    (case xi_NoRow => k_exc)
    (case kp_NoRow => k_is)
    (case xb_NoRow => k_is)
    (case ty_NoRow => k_is)
    (case xi_NoState => k_exc)
    (case kp_NoState => k_is)
    (case xb_NoState => k_is)
    (case ty_NoState => k_is)
    (case xi_NoWalker => k_exc)
    (case kp_NoWalker => k_is)
    (case xb_NoWalker => k_is)
    (case ty_NoWalker => k_is)
    (case eg_NoPlace => k_is)
    (case ek_NoPlace => k_is)
    (case hd_NoPlace => k_is)
    (case ec_NoPlace => k_is)
    (case em_NoPlace => k_is)
    (case eg_NoRow => k_is)
    (case ek_NoRow => k_is)
    (case hd_NoRow => k_is)
    (case ec_NoRow => k_is)
    (case em_NoRow => k_is)
    (case eg_NoState => k_is)
    (case ek_NoState => k_is)
    (case hd_NoState => k_is)
    (case ec_NoState => k_is)
    (case em_NoState => k_is)
    (case eg_NoWalker => k_is)
    (case ek_NoWalker => k_is)
    (case hd_NoWalker => k_is)
    (case ec_NoWalker => k_is)
    (case em_NoWalker => k_is)
    (case pg_Row => k_is)
    (case hd_Row => k_is)
    (case po_Row => k_is)
    (case sa_Row => k_is)
    (case ec_Row => k_is)
    (case em_Row => k_is)
    (case na_Row_left => k_is)
    (case na_Row_middle => k_is)
    (case na_Row_first => k_is)
    (case na_Row_right => k_is)
    (case pg_Walker => k_is)
    (case hd_Walker => k_is)
    (case po_Walker => k_is)
    (case sa_Walker => k_is)
    (case ec_Walker => k_is)
    (case em_Walker => k_is)
    (case na_Walker_states => k_is)
    (case na_Walker_table => k_is)
    (case pg_Going => k_is)
    (case hd_Going => k_is)
    (case po_Going => k_is)
    (case sa_Going => k_is)
    (case ec_Going => k_is)
    (case em_Going => k_is)
    (case na_Going_walker => k_is)
    (case na_Going_state => k_is)
    (case na_Going_goal => k_is)
    (case na_Going_done => k_is)
    (case mk_Going => k_is)
    (case kp_Going => k_is)
    (case mk_Row => k_is)
    (case kp_Row => k_is)
    (case mk_Walker => k_is)
    (case kp_Walker => k_is)
    (case hnd => decide +kernel)

