import PyProof.Rows.All
import Wide.All
import OpenK.AllK
import Wide.FinOn
import HandS.ForMost
import HandS.IsInst
import HandS.Flow
import HandS.Wide
import HandS.Lambda
import KE.KDictCopyH
import HandS.Iter
import HandS.ExcValue
import HandS.ExcIs
import HandS.WordsExc
import HandS.TryOnly
import HandS.TupAny
import HandS.TupMul
import HandS.Deep
import HandS.RaiseMore
import HandS.SortKw
import KE.DataMinMax
import HandS.TupLe
import PyProof.FactsAll.tuple_2
import PyProof.EqAt
import PyProof.LongRange
import HandS.WideBits
import HandS.SortInts
import PyProof.ListRange
import HandS.Conv
import HandS.Style
import HandS.List
import PyProof.ReprRoads
import PyProof.ReprReads
import KE.KMinKey
import KE.SortData
import KE.LtData
import HandS.CallLocal
import HandS.EndTab
import HandS.HeadWalk
import KE.GoesMore
import HandS.Defaults
import HandS.Text
import HandS.StrMore
import HandS.Replace
import HandS.Codes
import PySem.Challenge.RW_farrows_k13_whole_spans_written
set_option Elab.async false
set_option linter.all false
set_option maxRecDepth 100000
set_option maxHeartbeats 4000000
set_option autoImplicit false
/-! Dicts whose keys are whole numbers or None, and whose values are so too. -/
namespace Far
open PySem L2 PySem.Spec PyProof.Rows
open Sem (wp)
abbrev KO := Option Int
def kL : KO → Leaf
  | none => .none
  | some i => .num i
theorem kL_inj {a b : KO} (h : kL a = kL b) : a = b := by
  cases a <;> cases b <;> simp [kL] at h ⊢
  exact h
def vO : KO → V
  | none => .non
  | some i => .int i
def isO : KO → Value → Bool
  | none, .none => true
  | some i, .int j _ => decide (j = i)
  | _, _ => false
theorem isO_leaf : ∀ {k : KO} {v : Value}, isO k v = true → Leaf.isOf (kL k) v = true
  | none, v, h => by cases v <;> first | rfl | exact absurd h Bool.false_ne_true
  | some i, v, h => by cases v <;> first | exact h | exact absurd h Bool.false_ne_true
/-- the kind of such keys -/
def oKind (P : Program) (w : World) : KeyKind P w KO where
  is := isO
  hash := fun k => (match k with | none => reduceHash 0xFCA86420 | some i => hashInt i)
  inj := fun v a b ha hb => kL_inj ((leafKind P w).inj v _ _ (isO_leaf ha) (isO_leaf hb))
  byValue := fun k v h => (leafKind P w).byValue (kL k) v (isO_leaf h)
  pyHash := fun {A E s k v Q} hv h => (leafKind P w).pyHash (k := kL k) (isO_leaf hv) (by
    cases k <;> exact h)
  eqBool := fun {A E s a b u v Q} hu hv h => (leafKind P w).eqBool (a := kL a) (b := kL b) (isO_leaf hu) (isO_leaf hv) (by
    have e : decide (kL a = kL b) = decide (a = b) := decide_eq_decide.mpr ⟨kL_inj, fun z => by rw [z]⟩
    rw [e]; exact h)
  «strs» := fun k x t v h => by cases k <;> exact absurd h Bool.false_ne_true
theorem oPairs {P P' : Program} {w w' : World} {es : List DictEntry} {kvs : List (KO × Value)} (h : Pairs (oKind P w) es kvs) : Pairs (oKind P' w') es kvs := by
  induction h with
  | nil => exact .nil
  | cons a b _ ih => exact .cons a b ih
theorem oDict {P P' : Program} {w w' : World} {h : Heap} {a : Addr} {kvs : List (KO × Value)} (d : h.DictOf (oKind P w) a kvs) : h.DictOf (oKind P' w') a kvs := by
  obtain ⟨o, es, ep, h1, h2, h3, h4, h5, h6⟩ := d
  exact ⟨o, es, ep, h1, h2, h3, h4, oPairs h5, h6⟩
theorem vO_is {P : Program} {w : World} {k : KO} {u : Value} (r : RelV (vO k) u) : (oKind P w).is k u = true := by
  cases k with
  | none =>
    have e : u = .none := r
    subst e; rfl
  | some i =>
    obtain ⟨t, e⟩ := (show ∃ t, u = .int i t from r)
    subst e
    show decide (i = i) = true
    simp
theorem vO_inj {a b : KO} (h : vO a = vO b) : a = b := by
  cases a <;> cases b <;> simp [vO] at h ⊢
  exact h
def encO (kvs : List (KO × KO)) : List (KO × V) := kvs.map fun p => (p.1, vO p.2)
def DP (a : Addr) (o : Obj) (kvs : List (KO × KO)) (h : Heap) : Prop :=
  h.get? a = some o ∧ kvs.length ≤ sizeLine ∧ (a == sysModules) = false ∧ ∃ vs, KV (encO kvs) vs ∧ ∀ P w, h.DictOf (oKind P w) a vs
/-- such a dict at a, its object o -/
abbrev DO (a : Addr) (o : Obj) (kvs : List (KO × KO)) : HO := .ext (DP a o kvs)
theorem dictOf_at {P : Program} {w : World} {h h' : Heap} {a : Addr} {kvs : List (KO × Value)} (d : h.DictOf (oKind P w) a kvs) (k : ∀ o, h.get? a = some o → h'.get? a = some o) : h'.DictOf (oKind P w) a kvs := by
  obtain ⟨o, es, ep, h1, r⟩ := d
  exact ⟨o, es, ep, k o h1, r⟩
theorem do_new {P : Program} {w : World} {H : Hp} {h : Heap} {a : Addr} {kvs : List (KO × KO)} {vs : List (KO × Value)} (z : kvs.length ≤ sizeLine) (hd : (a == sysModules) = false) (rel : KV (encO kvs) vs) (dd : h.DictOf (oKind P w) a vs) :
    ∃ o, h.get? a = some o ∧ ∀ H', ObjOk P w H' h a (DO a o kvs) := by
  obtain ⟨o, r⟩ := id dd
  obtain ⟨es, ep, h1, h2⟩ := r
  exact ⟨o, h1, fun H' => ⟨⟨h1, z, hd, vs, rel, fun P' w' => oDict dd⟩, ⟨o, h1⟩, fun p q ⟨e1, e2, e3, us, e4, e5⟩ k => ⟨k o e1, e2, e3, us, e4, fun P' w' => dictOf_at (e5 P' w') k⟩⟩⟩
section
variable {X : Cx} {pins : List (Addr × Obj)} {σ : L2.St} {H : Hp} {s : Shared} {a : Addr} {A : Around} {E : Value → Shared → Prop} {kvs : List (KO × KO)} {ob : Obj}
theorem do_rd (I : Inv X pins σ H s) (e : H a = some (DO a ob kvs)) : kvs.length ≤ sizeLine ∧ (a == sysModules) = false ∧ s.heap.get? a = some ob ∧ ∃ vs, KV (encO kvs) vs ∧ s.heap.DictOf (oKind X.prog X.w) a vs := by
  obtain ⟨⟨h1, h2, h3, vs, h4, h5⟩, _⟩ := (show ObjOk X.prog X.w H s.heap a (DO a ob kvs) from I.hok a _ e)
  exact ⟨h2, h3, h1, vs, h4, h5 X.prog X.w⟩
end
/-- what is at a key -/
def valO (kvs : List (KO × KO)) (k : KO) : Option KO := (kvs.find? fun p => decide (p.1 = k)).map (·.2)
theorem valV_enc (kvs : List (KO × KO)) (k : KO) : valV (encO kvs) k = (valO kvs k).map vO := by
  unfold valV encO valO
  rw [List.find?_map]
  cases h : kvs.find? fun p => decide (p.1 = k) with
  | none => rw [show List.find? ((fun kv : KO × V => decide (kv.1 = k)) ∘ fun p : KO × KO => (p.1, vO p.2)) kvs = none from h]; rfl
  | some p => rw [show List.find? ((fun kv : KO × V => decide (kv.1 = k)) ∘ fun p : KO × KO => (p.1, vO p.2)) kvs = some p from h]; rfl
def putO (kvs : List (KO × KO)) (k v : KO) : List (KO × KO) := if (kvs.any fun p => decide (p.1 = k)) = true then kvs.map (fun p => if p.1 = k then (p.1, v) else p) else kvs ++ [(k, v)]
theorem putO_len (kvs : List (KO × KO)) (k v : KO) : (putO kvs k v).length ≤ kvs.length + 1 := by
  unfold putO; split <;> simp
theorem enc_put (kvs : List (KO × KO)) (k v : KO) : encO (putO kvs k v) = putK (encO kvs) k (vO v) := by
  have an : ((encO kvs).any fun kv => decide (kv.1 = k)) = kvs.any fun p => decide (p.1 = k) := by
    unfold encO; rw [List.any_map]; rfl
  unfold putO putK
  rw [an]
  split
  · unfold encO
    rw [List.map_map, List.map_map]
    apply List.map_congr_left
    intro p _
    simp only [Function.comp]
    split <;> rfl
  · unfold encO; simp
theorem d_writeO {X : Cx} {pins : List (Addr × Obj)} {σ : L2.St} {H : Hp} {s : Shared} {a : Addr} {ob : Obj} {kvs kvs' : List (KO × KO)} {vs' : List (KO × Value)} {h' : Heap} {t' : Nat} (I : Inv X pins σ H s) (e : H a = some (DO a ob kvs)) (hs : Heap.SameBut a s.heap h')
    (z : kvs'.length ≤ sizeLine) (rel : KV (encO kvs') vs') (dd : h'.DictOf (oKind X.prog X.w) a vs') : ∃ ob', Inv X pins σ (upd H a (DO a ob' kvs')) { s with heap := h', toks := t' } := by
  obtain ⟨_, hd, _⟩ := do_rd I e
  obtain ⟨o, h1, h2⟩ := do_new (H := H) z hd rel dd
  exact ⟨o, d_write I (by rw [e]; exact True.intro) hs ⟨o, h1⟩ (h2 _)⟩
/-! ### rules -/
def tOGet2 (td ty tx : TE) : TE := fun σ H Q => td σ H fun x H1 => ∃ a ob kvs, x = .ref a ∧ H1 a = some (DO a ob kvs) ∧ ty σ H1 fun y H2 => tx σ H2 fun z H3 => ∃ ob2 kvs2 k, H3 a = some (DO a ob2 kvs2) ∧ y = vO k ∧ Q (((valO kvs2 k).map vO).getD z) H3
def sOPut (td ty tv : TE) : TS := fun D σ H => tv σ H fun v H1 => td σ H1 fun x H2 => ty σ H2 fun y H3 => ∃ a ob kvs k u, x = .ref a ∧ H3 a = some (DO a ob kvs) ∧ y = vO k ∧ v = vO u ∧ kvs.length < sizeLine ∧ ∀ ob', D.nx σ (upd H3 a (DO a ob' (putO kvs k u)))
def tONew : TE := fun _ H Q => ∀ p ob, H p = none → Q (.ref p) (upd H p (DO p ob []))
section
variable {X : Cx} {o e f i value : Expr} {apos cpos pos pos' : Pos} {td ty tx tv : TE}
theorem pe_oget2 (ho : PE X o td) (he : PE X e ty) (hf : PE X f tx) (m : M2 X o "get" apos e f cpos) : PE X (.Call (.Attribute o "get" apos) [e, f] [] cpos) (tOGet2 td ty tx) := by
  refine ⟨fun pins s σ H Q I h => ?_⟩
  refine wpAny_Call_method m.base m.few m.line PySem.F.plainAttrs_dict PySem.F.slot_dict_get PySem.F.type_dict_get (thn (ho.run pins s σ H _ I h) fun u s1 ⟨x, H1, I1, rx, a, ob, kvs, ex, d, q1⟩ => ?_)
  subst ex
  obtain rfl : u = Value.ref a := rx
  obtain ⟨_, _, _, _, _, dd⟩ := do_rd I1 d
  refine ⟨dd.typeIs, fun b q => ?_, ?_⟩
  · cases q
    obtain ⟨ob2, _, _, h1, h2, _⟩ := dd
    exact ⟨ob2, h1, h2.2.1⟩
  rw [m.trees]
  refine Calls.callWith_builtin rfl (Calls.evalArgs_plain (Calls.spliced_cons (thn (he.run pins s1 σ H1 _ I1 q1) fun iv s2 ⟨y, H2, I2, ry, q2⟩ =>
    Calls.spliced_cons (thn (hf.run pins s2 σ H2 _ I2 q2) fun fv s3 ⟨z, H3, I3, rz, ob2, kvs2, k, d3, ey, q3⟩ => Calls.spliced_nil ?_))))
  subst ey
  obtain ⟨_, hd, _, vs, rel, dd3⟩ := do_rd I3 d3
  refine call_meetsIn PySem.F.slot_dict_get dd3.typeIs PySem.F.entry_dict_get (PySem.F.args_dict_get_3 _ _ _) (meets_dict_get_default (oKind X.prog X.w) a (vO_is ry) hd fv) ⟨_, dd3.mapOf, ⟨_, H3, I3.tok _, ?_, q3⟩⟩
  have r := rel.val k
  rw [valV_enc] at r
  exact r.getD rz
theorem ps_oput (ho : PE X o td) (hi : PE X i ty) (hv : PE X value tv) (hs : swapsWith value (some (.Subscript o i pos')) pos.line X.env = pure false) :
    PS X (.Assign [.Subscript o i pos'] value pos) (sOPut td ty tv) := by
  refine ⟨fun pins s σ H D I h => ?_⟩
  refine wpAny_Assign_Subscript (thn (hv.run pins s σ H _ I h) fun r s1 ⟨v, H1, I1, rv, q1⟩ => thn (ho.run pins s1 σ H1 _ I1 q1) fun u s2 ⟨x, H2, I2, rx, q2⟩ => thn (hi.run pins s2 σ H2 _ I2 q2) fun iv s3 ⟨y, H3, I3, ry, a, ob, kvs, k, w, ex, e, ey, ev, l, q3⟩ => ?_) hs
  subst ex ey ev
  obtain rfl : u = Value.ref a := rx
  obtain ⟨z, hd, _, vs, rel, dd⟩ := do_rd I3 e
  have hz : vs.length ≤ sizeLine := by rw [← rel.length]; unfold encO; rw [List.length_map]; exact z
  refine wpAny_setItem_pairs (hsz := hz) (vO_is ry) dd fun h' dd' hs => ?_
  have hl : (putO kvs k w).length ≤ sizeLine := by have := putO_len kvs k w; omega
  obtain ⟨ob', I4⟩ := d_writeO (t' := s3.toks + 1) I3 e hs hl (by rw [enc_put]; exact rel.put k rv) dd'
  exact ⟨σ, _, I4, q3 ob'⟩
theorem pe_onew : PE X (.Dict [] [] pos) tONew := ⟨fun pins s σ H Q I h => by
  have big := I.big
  refine wpAny_Dict_empty ?_
  have dd : (s.heap.push { cls := .type "dict", data := .dict #[] }).DictOf (oKind X.prog X.w) s.heap.objs.size [] := Heap.DictOf.new s.heap
  obtain ⟨o, h1, h2⟩ := do_new (H := H) (kvs := []) (by decide) (beq_eq_false_iff_ne.mpr (Nat.ne_of_gt big)) .nil dd
  exact ⟨.ref s.heap.objs.size, _, I.laid (a := s.heap.objs.size) (t' := s.toks) (fun _ _ q => Heap.get?_push_of_some _ q) (Nat.le_refl _) (h2 _), rfl, h _ o (I.hok.fresh (Nat.le_refl _))⟩⟩
end
def mergeO (kvs more : List (KO × KO)) : List (KO × KO) := more.foldl (fun acc kv => putO acc kv.1 kv.2) kvs
theorem mergeO_len : ∀ (more kvs : List (KO × KO)), (mergeO kvs more).length ≤ kvs.length + more.length
  | [], kvs => by show kvs.length ≤ kvs.length + 0; omega
  | p :: r, kvs => by
    have h1 := mergeO_len r (putO kvs p.1 p.2)
    have h2 := putO_len kvs p.1 p.2
    show (mergeO (putO kvs p.1 p.2) r).length ≤ _
    rw [List.length_cons]; omega
theorem KV_mergeO : ∀ {more kvs : List (KO × KO)} {rs vs : List (KO × Value)}, KV (encO more) rs → KV (encO kvs) vs → KV (encO (mergeO kvs more)) (merged vs rs)
  | [], _, _, _, r, q => by
    have r' : KV [] _ := r
    cases r'
    exact q
  | p :: more, kvs, rs, vs, r, q => by
    have r' : KV ((p.1, vO p.2) :: encO more) rs := r
    cases r' with
    | @cons _ b _ bs h t =>
      have e : KV (encO (putO kvs p.1 p.2)) (stored vs b.1 b.2) := by
        have := q.put p.1 h.2
        rw [enc_put, ← h.1]
        exact this
      exact KV_mergeO (more := more) (kvs := putO kvs p.1 p.2) (rs := bs) (vs := stored vs b.1 b.2) t e
theorem carriesO {P : Program} {w : World} : ∀ {kvs : List (KO × KO)} {ws : List (Value × Value)}, VV (kvs.map fun kv => (vO kv.1, vO kv.2)) ws → ∃ rs, Carries (oKind P w) ws rs ∧ KV (encO kvs) rs
  | [], _, r => by rw [List.map_nil] at r; cases r; exact ⟨[], True.intro, .nil⟩
  | p :: kvs, _, r => by
    rw [List.map_cons] at r
    cases r with
    | @cons a b as bs h t =>
      obtain ⟨rs, c, q⟩ := carriesO (P := P) (w := w) t
      obtain ⟨b1, b2⟩ := b
      exact ⟨(p.1, b2) :: rs, ⟨vO_is h.1, rfl, c⟩, .cons ⟨rfl, h.2⟩ q⟩
def tODisp (trs : List (TE × TE)) : TE := fun σ H Q => ∀ p ob, H p = none → tPairs trs σ (upd H p (DO p ob [])) fun ps H2 => (∃ ob2, H2 p = some (DO p ob2 [])) ∧ ∃ kvs : List (KO × KO), ps = kvs.map (fun kv => (vO kv.1, vO kv.2)) ∧ kvs.length ≤ 15 ∧ ∀ ob', Q (.ref p) (upd H2 p (DO p ob' (mergeO [] kvs)))
theorem pe_odisp {X : Cx} {pos : Pos} {keys : List (Option Expr)} {values : List Expr} {trs : List (TE × TE)} (h : PPs X pos keys values trs) (hall : keys.all (·.isSome) = true) (hl : keys.length = values.length) (h0 : keys ≠ [])
    (h15 : keys.length ≤ 15) : PE X (.Dict keys values pos) (tODisp trs) := by
  refine ⟨fun pins s σ H Q I q => ?_⟩
  have hn := I.hok.fresh (Nat.le_refl s.heap.objs.size)
  have big := I.big
  have dd0 : (s.heap.push { cls := .type "dict", data := .dict #[] }).DictOf (oKind X.prog X.w) s.heap.objs.size [] := Heap.DictOf.new s.heap
  obtain ⟨o, h1, h2⟩ := do_new (H := H) (kvs := []) (by decide) (beq_eq_false_iff_ne.mpr (Nat.ne_of_gt big)) .nil dd0
  have I1 := I.laid (a := s.heap.objs.size) (h' := s.heap.push { cls := .type "dict", data := .dict #[] }) (t' := s.toks) (fun _ _ q => Heap.get?_push_of_some _ q) (Nat.le_refl _) (h2 _)
  refine wpAny_Dict_walk (knd := oKind X.prog X.w) hall hl h0 h15 (thn (h.run pins _ σ _ _ I1 (q _ o hn)) fun ws s2 ⟨ps, H2, I2, rel, ⟨ob2, e⟩, kvs, ep, lk, q2⟩ => ?_)
  subst ep
  obtain ⟨rs, c, rk⟩ := carriesO (P := X.prog) (w := X.w) rel
  obtain ⟨z, hd, _, vs0, r0, dd⟩ := do_rd I2 e
  have r0' : KV [] vs0 := r0
  cases r0'
  refine ⟨rs, c, dd, fun h' dd' hs => ?_⟩
  have hz : (mergeO [] kvs).length ≤ sizeLine := by
    have h1 := mergeO_len kvs []
    rw [List.length_nil] at h1
    rw [sizeLine_eq]; omega
  obtain ⟨ob', I4⟩ := d_writeO (t' := s2.toks + ws.length) I2 e hs hz (KV_mergeO rk .nil) dd'
  exact ⟨.ref s.heap.objs.size, _, I4, rfl, q2 ob'⟩
/-! items -/
def ItO (d : Addr) (ob : Obj) (kvs : List (KO × KO)) : It :=
  ⟨fun i H => H d = some (DO d ob kvs) ∧ i < kvs.length, fun i H x H' => ∃ T k v, kvs[i]? = some (k, v) ∧ x = .ref T ∧ H T = none ∧ H' = upd H T (.tup [vO k, vO v]), fun i H => H d = some (DO d ob kvs) ∧ kvs.length ≤ i⟩
theorem relV_o : ∀ {k : KO} {u : Value}, isO k u = true → RelV (vO k) u
  | none, u, h => by cases u <;> first | exact rfl | exact absurd h Bool.false_ne_true
  | some i, u, h => by
    cases u with
    | int j t =>
      have e : j = i := of_decide_eq_true h
      subst e; exact ⟨t, rfl⟩
    | _ => exact absurd h Bool.false_ne_true
theorem oAt {P : Program} {w : World} {h : Heap} {d : Addr} {o : Obj} {es : Array DictEntry} {ep : Nat} {vs : List (KO × Value)} (hg : h.get? d = some o) (hod : o.data = .dict es ep) (dd : h.DictOf (oKind P w) d vs) : h.DictAt (oKind P w) d vs ep := by
  obtain ⟨o', es', ep', h1, h2, h3, r⟩ := dd
  rw [hg] at h1; cases h1
  obtain ⟨rfl, rfl⟩ := dict_ep hod h3
  exact ⟨o, es', hg, h2, hod, r⟩
section
variable {P : Program} {w : World} {K : PySem.W.Frag} {d : Addr} {o : Obj} {es : Array DictEntry} {ep : Nat}
theorem turn_oitems {kvs : List (KO × KO)} {elts : List Expr} {kk : Nat} {tpos : Pos} (it : Addr) (hod : o.data = .dict es ep) :
    Turn P w K (.Tuple elts kk tpos) (ItO d o kvs) [it] it (fun i h => ∃ ok ov, IsItemIter h it d i kvs.length ep ok ov) where
  mem := by simp
  obj := fun i h st b hb => by
    have e : b = it := by simpa using hb
    subst e
    obtain ⟨ok, ov, e⟩ := st
    exact ⟨_, e, fun v z => nomatch z⟩
  keep := fun i h h' st k => let ⟨ok, ov, e⟩ := st; ⟨ok, ov, k it (by simp) _ e⟩
  item := by
    intro X hP hw hK hc i pins s σ H E I hf st hg
    subst hP hw hK
    obtain ⟨hd, hi⟩ := hg
    obtain ⟨hsz, hs, hgd, vs, kv, dd⟩ := do_rd I hd
    have hm := oAt hgd hod dd
    obtain ⟨⟨k, v⟩, hkv⟩ : ∃ p, kvs[i]? = some p := ⟨kvs[i], List.getElem?_eq_getElem hi⟩
    have hkv2 : (encO kvs)[i]? = some (k, vO v) := by unfold encO; rw [List.getElem?_map, hkv]; rfl
    obtain ⟨u, hu, ru⟩ := kv_get kv hkv2
    have hl : kvs.length = vs.length := by have := Paired.length kv; unfold encO at this; rwa [List.length_map] at this
    obtain ⟨ok, ov, he⟩ := st
    rw [hl] at he
    have hlt : it < s.heap.objs.size := Heap.lt_size he
    refine wpAny_pyNext_items_item he hm hu fun key h' hkey ho hT hz hk => ?_
    refine ⟨_, rfl, wpAny_letOwnedTupleGo_items (s := { s with heap := h' }) ho fun h'' he' sb => ?_⟩
    have hT2 : h''.get? s.heap.objs.size = some { cls := .type "tuple", data := .seq #[key, u] } := (sb.2 _ (Nat.ne_of_gt hlt)).trans hT
    have new : ObjOk X.prog X.w (upd H s.heap.objs.size (.tup [vO k, vO v])) h'' s.heap.objs.size (.tup [vO k, vO v]) :=
      ⟨by show 2 ≤ sizeLine; decide, [key, u], .cons (relV_o (show isO k key = true from hkey)) (.cons ru .nil), ⟨_, hT2, rfl, _, rfl⟩⟩
    have I1 : Inv X pins σ (upd H s.heap.objs.size (.tup [vO k, vO v])) { s with heap := h'' } :=
      I.turnedNew (t' := s.toks) (ch := [it]) (fun b ob hb e => (sb.2 b (by simpa using hb)).trans (hk b ob (by simpa using hb) e)) hf (Nat.le_refl _) new
    refine ⟨.ref s.heap.objs.size, _, I1, rfl, ⟨_, k, v, hkv, rfl, I.hok.fresh (Nat.le_refl _), rfl⟩, ⟨key, u, ?_⟩, fun b hb => ?_⟩
    · rw [hl]; exact he'
    · have e : b = it := by simpa using hb
      rw [e, upd_ne (Nat.ne_of_lt hlt)]
      exact (hf it (by simp)).1
  done := by
    intro X hP hw hK hc i pins s σ H E I hf st hg
    subst hP hw hK
    obtain ⟨hd, hi⟩ := hg
    obtain ⟨f0, f1, f2, f3, f4, f5⟩ := hf it (by simp)
    obtain ⟨hsz, hs, hgd, vs, kv, dd⟩ := do_rd I hd
    have hm := oAt hgd hod dd
    have hl : kvs.length = vs.length := by have := Paired.length kv; unfold encO at this; rwa [List.length_map] at this
    obtain ⟨ok, ov, he⟩ := st
    rw [hl] at he
    exact wpAny_pyNext_items_end (I.ok.hd hc) he hm (List.getElem?_eq_none (by omega)) fun h' eb => ⟨rfl, I.turned (t' := s.toks) (fun b ob hb e => eb b ob hb e) f0 f1 f3 f4 f5⟩
  self := fun A i s Q E st h => let ⟨_, _, e⟩ := st; PySem.W.kcp_self e h
end
def iOItems (td : TE) : TI := fun σ H R => td σ H fun x H1 => ∃ d o kvs, x = .ref d ∧ H1 d = some (DO d o kvs) ∧ R (ItO d o kvs) H1
theorem pi_oitems {X : Cx} {e : Expr} {td : TE} {apos cpos : Pos} {elts : List Expr} {kk : Nat} {tpos : Pos} (he : PE X e td) (hbase : attributeBase e "items" X.env (eval e X.env) = eval e X.env := by rfl) (hline : (apos.endLine == cpos.line) = true := by rfl) :
    PI X (.Tuple elts kk tpos) (.Call (.Attribute e "items" apos) [] [] cpos) (iOItems td) := by
  refine ⟨fun pins s σ H R I h => ?_⟩
  refine wpAny_Call_method (T := "dict") (id := "dict.items") hbase rfl hline F.plainAttrs_dict F.slot_dict_items F.type_dict_items (thn (he.run pins s σ H _ I h) fun u s1 ⟨x, H1, I1, rx, d, o, kvs, ex, hd, q⟩ => ?_)
  subst ex
  obtain rfl : u = Value.ref d := rx
  obtain ⟨hsz, hs, hgd, vs, kv, dd⟩ := do_rd I1 hd
  obtain ⟨o', es, ep, g1, g2, g3, g4⟩ := id dd
  rw [hgd] at g1; cases g1
  have hm := oAt hgd g3 dd
  have hl : kvs.length = vs.length := by have := Paired.length kv; unfold encO at this; rwa [List.length_map] at this
  refine ⟨hm.dictOf.typeIs, hm.dictOf.mapOf.noDict, ?_⟩
  have I2 : Inv X pins σ H1 { s1 with heap := s1.heap.push { cls := .type "dict_items", data := .fields #[.ref d] } } := I1.kept (t' := s1.toks) fun b ob q => Heap.get?_push_of_some _ q
  have fin : wpAny (model X.prog X.w) X.A (pyIter (.ref s1.heap.objs.size)) (PIE X pins σ (.Tuple elts kk tpos) R) X.xe { s1 with heap := s1.heap.push { cls := .type "dict_items", data := .fields #[.ref d] } } := by
    refine wpAny_pyIter_items (d := d) (knd := oKind X.prog X.w) ⟨_, Heap.get?_push_size _ rfl, rfl, rfl⟩ (hm.push _) (pi_one (tk := s1.toks) I2 _ (turn_oitems _ g3) ⟨.none, .none, ?_⟩ q)
    rw [hl]
    exact Heap.get?_push_size _ rfl
  show wpAny _ _ (callWith cpos (.builtin "dict.items") [.ref d] [] []) _ X.xe s1
  exact method_meetsIn F.slot_dict_items F.entry_dict_items rfl (PySem.evalArgs_none ⟨rfl, hm.dictOf.typeIs, F.args_dict_items_1 _, _, meets_dict_items (oKind X.prog X.w) d hs, ⟨vs, hm.dictOf⟩, fin⟩)
/-! dict(d) -/
theorem d_copyO {X : Cx} {pins : List (Addr × Obj)} {σ : L2.St} {H : Hp} {s : Shared} {a : Addr} {kvs : List (KO × KO)} {ob : Obj} {A : Around} {E : Value → Shared → Prop} {Q : Value → Shared → Prop} (I : Inv X pins σ H s) (e : H a = some (DO a ob kvs)) (h : ∀ p ob' s', H p = none → Inv X pins σ (upd H p (DO p ob' kvs)) s' → Q (.ref p) s') : wpAny (model X.prog X.w) A (call (.type "dict") [.ref a]) Q E s := by
  obtain ⟨z, hd, _, vs, rel, dd⟩ := do_rd I e
  have hl : kvs.length = vs.length := by have := Paired.length rel; unfold encO at this; rwa [List.length_map] at this
  refine kt_call_dict hd dd (by rw [← hl]; exact z) fun h' dd' hs => ?_
  obtain ⟨o, h1, h2⟩ := do_new (H := H) z (beq_eq_false_iff_ne.mpr (Ne.symm (Nat.ne_of_lt I.big))) rel dd'
  refine h _ o _ (I.hok.fresh (Nat.le_refl _)) (I.laid (a := s.heap.objs.size) (t' := s.toks) (fun b q hq => ?_) (Nat.le_refl _) (h2 _))
  exact (hs.2 b (Nat.ne_of_lt (Heap.lt_size hq))).trans (Heap.get?_push_of_some _ hq)
end Far
/-! The layer of plain data over the hand layer: what a Python value IS (D), how it lies in a heap (Rp), a def's slots told as data (OK), expressions and statements told over data alone (EV, EB, SD). -/
namespace Far
open PySem L2

/-- what a value is, without the heap -/
inductive D where
  | non | bl (b : Bool) | int (i : Int) | str (x : Str) | ty (n : String) | cls (a : Addr)
  | tup (xs : List D) | utp (xs : List D) | lst (xs : List D) | scr (xs : List D) | ins (C : Addr) (fs : List (Str × D)) | dK (kvs : List (Key × D)) | dO (kvs : List (KO × KO)) | exc (C : Addr) (fs : List (Str × D)) | lam (f c : Addr) (q : Str) (cvs : List V) (caps : List D)
/-- an exception object that was caught and is kept -/
def ExK (cls : Value) (d : Option Addr) (a : Addr) : HO := .ext fun h => ∃ (oe : Obj) (vs : Array Value), h.get? a = some oe ∧ Zc cls d oe ∧ oe.data = .fields vs

/-- a tuple at a that has no dict of its own -/
def SqP (K : PySem.W.Frag) (H : Hp) (a : Addr) (xs : List V) : Prop := (∃ o : Obj, H a = some (.frz o (.tup xs)) ∧ o.cls = .type "tuple" ∧ o.dict = none) ∨
  ∃ (o : Obj) (its : Array Value) (n : Nat), K.lookup a = some o ∧ o.cls = .type "tuple" ∧ o.dict = none ∧ o.data = .seq its n ∧ its.size ≤ sizeLine ∧ Vals xs its.toList
theorem SqP.t {K : PySem.W.Frag} {H : Hp} {a : Addr} {xs : List V} (h : SqP K H a xs) : SqT K H a xs := by
  rcases h with ⟨o, h, _⟩ | ⟨o, its, n, h1, h2, _, h3, h4, h5⟩
  · exact .inl (.inr ⟨o, h⟩)
  · exact .inr ⟨o, its, n, h1, h2, h3, h4, h5⟩
/-- a tuple just made -/
def NewT (H : Hp) (xs : List V) (Q : VK) : Prop := ∀ (p : Addr) (o : Obj), H p = none → o.cls = .type "tuple" → o.dict = none → Q (.ref p) (upd H p (.frz o (.tup xs)))
section
variable (K : PySem.W.Frag) (H : Hp)
mutual
/-- v lies in H as the data d -/
inductive Rp : D → V → Prop
  | non : Rp .non .non
  | bl {b} : Rp (.bl b) (.bl b)
  | int {i} : Rp (.int i) (.int i)
  | str {x} : Rp (.str x) (.str x)
  | ty {n} : Rp (.ty n) (.ty n)
  | cls {a} : Rp (.cls a) (.ref a)
  | tup {a vs xs} : SqP K H a vs → RpL xs vs → Rp (.tup xs) (.ref a)
  | utp {a vs xs} : SqT K H a vs → RpL xs vs → Rp (.utp xs) (.ref a)
  | lst {a vs xs} : H a = some (.lst vs) → RpL xs vs → Rp (.lst xs) (.ref a)
  | scr {a vs xs} : SqL K H a vs → RpL xs vs → Rp (.scr xs) (.ref a)
  | ins {a dx C fs gs} : H a = some (.ins C dx gs) → RpF fs gs → Rp (.ins C fs) (.ref a)
  | dK {a fs gs} : H a = some (.dK gs) → RpK fs gs → Rp (.dK fs) (.ref a)
  | dO {a ob kvs} : H a = some (DO a ob kvs) → Rp (.dO kvs) (.ref a)
  | exc0 {a C} : H a = some (ExK (.ref C) none a) → Rp (.exc C []) (.ref a)
  | exc1 {a C dd fs gs} : H a = some (ExK (.ref C) (some dd) a) → H dd = some (.xd gs) → RpF fs gs → fs ≠ [] → Rp (.exc C fs) (.ref a)
  | exo {a C} : H a = some (ExO (.ref C) a) → Rp (.exc C []) (.ref a)
  | lam {f c q cvs caps} : H c = some (LamX.CodeO c q) → RpL caps cvs → Rp (.lam f c q cvs caps) (.ref f)
inductive RpL : List D → List V → Prop
  | nil : RpL [] []
  | cons {x v xs vs} : Rp x v → RpL xs vs → RpL (x :: xs) (v :: vs)
inductive RpF : List (Str × D) → List (Str × V) → Prop
  | nil : RpF [] []
  | cons {f x v xs vs} : Rp x v → RpF xs vs → RpF ((f, x) :: xs) ((f, v) :: vs)
inductive RpK : List (Key × D) → List (Key × V) → Prop
  | nil : RpK [] []
  | cons {f x v xs vs} : Rp x v → RpK xs vs → RpK ((f, x) :: xs) ((f, v) :: vs)
end
end

/-- no table of code objects -/
def ntb : HO → Bool
  | .tbl _ => false | _ => true
/-- all of H stands in H'; tables may grow -/
structure Ex (H H' : Hp) : Prop where
  nt : ∀ a o, H a = some o → ntb o = true → H' a = some o
  tb : ∀ a ps, H a = some (.tbl ps) → ∃ ps', H' a = some (.tbl ps')
theorem Ex.app {H H' : Hp} (e : Ex H H') (a : Addr) (o : HO) (h : H a = some o) (n : ntb o = true := by exact rfl) : H' a = some o := e.nt a o h n
instance {H H' : Hp} : CoeFun (Ex H H') fun _ => ∀ (a : Addr) (o : HO) (_ : H a = some o) (_ : ntb o = true := by exact rfl), H' a = some o := ⟨@Ex.app H H'⟩
theorem Ex.of {H H' : Hp} (h : ∀ a o, H a = some o → H' a = some o) : Ex H H' := ⟨fun a o e _ => h a o e, fun a ps e => ⟨ps, h a _ e⟩⟩
theorem Ex.refl (H : Hp) : Ex H H := .of fun _ _ h => h
theorem Ex.trans {H H1 H2 : Hp} (a : Ex H H1) (b : Ex H1 H2) : Ex H H2 := ⟨fun x o h n => b.nt x o (a.nt x o h n) n, fun x ps h => by
  obtain ⟨ps', e⟩ := a.tb x ps h
  exact b.tb x ps' e⟩
theorem Ex.put {A H : Hp} {p : Addr} {u : HO} (e : Ex A H) (n : A p = none) : Ex A (upd H p u) := ⟨fun a o h k => by
  rw [upd_ne (ne_of_none h n)]; exact e.nt a o h k, fun a ps h => by
  rw [upd_ne (ne_of_none h n)]; exact e.tb a ps h⟩
theorem Ex.new {H : Hp} {p : Addr} {o : HO} (h : H p = none) : Ex H (upd H p o) := (Ex.refl H).put h
theorem Ex.lay {A H : Hp} {p : Addr} {u : HO} (e : Ex A H) (h : H p = some u) (n : ntb u = true := by exact rfl) : Ex (upd A p u) H := ⟨fun a o q k => by
  by_cases z : a = p
  · subst z; rw [upd_same] at q; cases q; exact h
  · rw [upd_ne z] at q; exact e.nt a o q k, fun a ps q => by
  by_cases z : a = p
  · subst z; rw [upd_same] at q; cases q; cases n
  · rw [upd_ne z] at q; exact e.tb a ps q⟩
/-- both grow by the same -/
theorem Ex.both {A H : Hp} {p : Addr} {u : HO} (e : Ex A H) : Ex (upd A p u) (upd H p u) := ⟨fun a o h k => by
  by_cases q : a = p
  · subst q; rw [upd_same] at h ⊢; exact h
  · rw [upd_ne q] at h ⊢; exact e.nt a o h k, fun a ps h => by
  by_cases q : a = p
  · subst q; rw [upd_same] at h ⊢; exact ⟨ps, h⟩
  · rw [upd_ne q] at h ⊢; exact e.tb a ps h⟩
theorem Ex.none {H H' : Hp} {p : Addr} (e : Ex H H') (h : H' p = none) : H p = none := by
  cases h1 : H p with
  | none => rfl
  | some o =>
    cases hn : ntb o with
    | true => rw [e.nt p o h1 hn] at h; cases h
    | false =>
      cases o with
      | tbl ps => obtain ⟨_, z⟩ := e.tb p ps h1; rw [z] at h; cases h
      | _ => cases hn
theorem Ex.rd {H H' : Hp} {a : Addr} {u : HO} (e : Ex H H') (h : Rd H a u) (n : ntb u = true := by exact rfl) : Rd H' a u := by
  rcases h with h | ⟨o, h⟩
  · exact Or.inl (e.nt a _ h n)
  · exact Or.inr ⟨o, e a _ h⟩
theorem Ex.l {K : PySem.W.Frag} {H H' : Hp} {a : Addr} {xs : List V} (e : Ex H H') (h : SqL K H a xs) : SqL K H' a xs := h.imp (fun z => e.rd z) id
theorem Ex.t {K : PySem.W.Frag} {H H' : Hp} {a : Addr} {xs : List V} (e : Ex H H') (h : SqT K H a xs) : SqT K H' a xs := h.imp (fun z => e.rd z) id
theorem Ex.p {K : PySem.W.Frag} {H H' : Hp} {a : Addr} {xs : List V} (e : Ex H H') (h : SqP K H a xs) : SqP K H' a xs := h.imp (fun ⟨o, h1, h2⟩ => ⟨o, e _ _ h1, h2⟩) id
section
variable {K : PySem.W.Frag} {H H' : Hp}
mutual
theorem Rp.mono (e : Ex H H') : ∀ {d v}, Rp K H d v → Rp K H' d v
  | _, _, .non => .non
  | _, _, .bl => .bl
  | _, _, .int => .int
  | _, _, .str => .str
  | _, _, .ty => .ty
  | _, _, .cls => .cls
  | _, _, .tup h r => .tup (e.p h) (RpL.mono e r)
  | _, _, .utp h r => .utp (e.t h) (RpL.mono e r)
  | _, _, .lst h r => .lst (e _ _ h) (RpL.mono e r)
  | _, _, .scr h r => .scr (e.l h) (RpL.mono e r)
  | _, _, .ins h r => .ins (e _ _ h) (RpF.mono e r)
  | _, _, .dK h r => .dK (e _ _ h) (RpK.mono e r)
  | _, _, .dO h => .dO (e _ _ h)
  | _, _, .exc0 h => .exc0 (e _ _ h)
  | _, _, .exc1 h h2 r n => .exc1 (e _ _ h) (e _ _ h2) (RpF.mono e r) n
  | _, _, .exo h => .exo (e _ _ h)
  | _, _, .lam h r => .lam (e _ _ h) (RpL.mono e r)
theorem RpL.mono (e : Ex H H') : ∀ {d v}, RpL K H d v → RpL K H' d v
  | _, _, .nil => .nil
  | _, _, .cons h r => .cons (Rp.mono e h) (RpL.mono e r)
theorem RpF.mono (e : Ex H H') : ∀ {d v}, RpF K H d v → RpF K H' d v
  | _, _, .nil => .nil
  | _, _, .cons h r => .cons (Rp.mono e h) (RpF.mono e r)
theorem RpK.mono (e : Ex H H') : ∀ {d v}, RpK K H d v → RpK K H' d v
  | _, _, .nil => .nil
  | _, _, .cons h r => .cons (Rp.mono e h) (RpK.mono e r)
end
theorem RpL.length : ∀ {xs : List D} {vs : List V}, RpL K H xs vs → xs.length = vs.length
  | _, _, .nil => rfl
  | _, _, .cons _ r => congrArg (· + 1) r.length
theorem RpL.get : ∀ {xs : List D} {vs : List V} {i : Nat} {x : D}, RpL K H xs vs → xs[i]? = some x → ∃ v, vs[i]? = some v ∧ Rp K H x v
  | _, _, _, _, .nil, h => by simp at h
  | _, _, 0, _, .cons h _, e => by simp at e; subst e; exact ⟨_, rfl, h⟩
  | _, _, i + 1, x, .cons _ r, e => RpL.get (i := i) r (by simpa using e)
theorem RpL.getV : ∀ {xs : List D} {vs : List V} {i : Nat} {v : V}, RpL K H xs vs → vs[i]? = some v → ∃ x, xs[i]? = some x ∧ Rp K H x v
  | _, _, _, _, .nil, h => by simp at h
  | _, _, 0, _, .cons h _, e => by simp at e; subst e; exact ⟨_, rfl, h⟩
  | _, _, i + 1, x, .cons _ r, e => RpL.getV (i := i) r (by simpa using e)
theorem RpL.append : ∀ {xs ys : List D} {vs us : List V}, RpL K H xs vs → RpL K H ys us → RpL K H (xs ++ ys) (vs ++ us)
  | _, _, _, _, .nil, s => s
  | _, _, _, _, .cons h r, s => .cons h (r.append s)
theorem RpL.drop : ∀ {xs : List D} {vs : List V} (n : Nat), RpL K H xs vs → RpL K H (xs.drop n) (vs.drop n)
  | _, _, 0, r => r
  | _, _, _ + 1, .nil => .nil
  | _, _, n + 1, .cons _ r => r.drop n
theorem RpL.take : ∀ {xs : List D} {vs : List V} (n : Nat), RpL K H xs vs → RpL K H (xs.take n) (vs.take n)
  | _, _, 0, _ => .nil
  | _, _, _ + 1, .nil => .nil
  | _, _, n + 1, .cons h r => .cons h (r.take n)
theorem RpL.set {x : D} {v : V} (h : Rp K H x v) : ∀ {xs : List D} {vs : List V} (i : Nat), RpL K H xs vs → RpL K H (xs.set i x) (vs.set i v)
  | _, _, _, .nil => .nil
  | _, _, 0, .cons _ r => .cons h r
  | _, _, i + 1, .cons g r => .cons g (r.set h i)
theorem RpF.lookup {f : Str} {x : D} : ∀ {fs : List (Str × D)} {gs : List (Str × V)}, RpF K H fs gs → fs.lookup f = some x → ∃ v, gs.lookup f = some v ∧ Rp K H x v
  | _, _, .nil, h => by simp at h
  | _, _, .cons (f := g) h r, e => by
    rw [List.lookup_cons] at e ⊢
    by_cases q : (f == g) = true
    · rw [q] at e ⊢; cases e; exact ⟨_, rfl, h⟩
    · have q' : (f == g) = false := by simpa using q
      rw [q'] at e ⊢; exact r.lookup e
theorem RpF.nolook {f : Str} : ∀ {fs : List (Str × D)} {gs : List (Str × V)}, RpF K H fs gs → fs.lookup f = none → gs.lookup f = none
  | _, _, .nil, h => rfl
  | _, _, .cons (f := g) h r, e => by
    rw [List.lookup_cons] at e ⊢
    by_cases q : (f == g) = true
    · rw [q] at e; cases e
    · have q' : (f == g) = false := by simpa using q
      rw [q'] at e ⊢; exact r.nolook e
end
/-- a field stored -/
def putD (f : Str) (x : D) : List (Str × D) → List (Str × D)
  | [] => [(f, x)]
  | (g, y) :: r => if g = f then (g, x) :: r else (g, y) :: putD f x r
section
variable {K : PySem.W.Frag} {H : Hp}
theorem RpF.put {f : Str} {x : D} {v : V} (h : Rp K H x v) : ∀ {fs : List (Str × D)} {gs : List (Str × V)}, RpF K H fs gs → RpF K H (putD f x fs) (putF f v gs)
  | _, _, .nil => .cons h .nil
  | _, _, .cons (f := g) (vs := vs) q r => by
    unfold putD putF
    by_cases e : g = f
    · rw [if_pos e, if_pos e]; exact .cons h r
    · rw [if_neg e, if_neg e]; exact .cons q (r.put h)
theorem RpF.length : ∀ {fs : List (Str × D)} {gs : List (Str × V)}, RpF K H fs gs → fs.length = gs.length
  | _, _, .nil => rfl
  | _, _, .cons _ r => congrArg (· + 1) r.length
end

/-- a slot told: nothing known; data that nobody changes; a list that this frame alone holds; an instance that it alone holds -/
inductive S where
  | un | d (x : D) | own (xs : List D) | okd (kvs : List (Key × D)) | oko (kvs : List (KO × KO)) | ob (q : Option Addr) (C : Addr) (fs : List (Str × D)) | ot (A xs B : List D)

/-- He: the heap at the entry; Ge: what of it was told as data; G: what is told as data now; H: the heap now -/
def SlotOk (K : PySem.W.Frag) (He G H : Hp) : S → Option V → Prop
  | .un, _ => True
  | .ot _ _ _, _ => True
  | .d x, o => ∃ v, o = some v ∧ Rp K G x v
  | .own xs, o => ∃ p vs, o = some (.ref p) ∧ He p = none ∧ G p = none ∧ H p = some (.lst vs) ∧ RpL K G xs vs
  | .okd kvs, o => ∃ p gs, o = some (.ref p) ∧ He p = none ∧ G p = none ∧ H p = some (.dK gs) ∧ RpK K G kvs gs
  | .oko kvs, o => ∃ p ob, o = some (.ref p) ∧ He p = none ∧ G p = none ∧ H p = some (DO p ob kvs)
  | .ob q C fs, o => ∃ a dx gs, o = some (.ref a) ∧ (∀ b, q = some b → a = b) ∧ He a = none ∧ G a = none ∧ He dx = none ∧ G dx = none ∧ H a = some (.ins C dx gs) ∧ H dx = some (.own a) ∧ RpF K G fs gs
def owned : S → Bool
  | .own _ => true | .okd _ => true | .oko _ => true | .ob _ _ _ => true | _ => false
/-- the tables of code objects that may grow: told by K's entries behind the first that bear its address -/
def mkTab (P : Addr) (q : Str) : Obj := { cls := .ref P, data := .fields #[.str q 0] }
def tabsGo (a : Addr) : PySem.W.Frag → List (Addr × Str)
  | (b, o) :: r => if b = a then (match o.cls, o.data with | .ref P, .fields vs => (match vs.toList with | .str q _ :: _ => (P, q) :: tabsGo a r | _ => tabsGo a r) | _, _ => tabsGo a r) else []
  | [] => []
def tabsK : PySem.W.Frag → List (Addr × Str)
  | (a, _) :: r => tabsGo a r
  | [] => []
def TabOk (K : PySem.W.Frag) (H G : Hp) : Prop := ∀ P ∈ tabsK K, ∃ ps, H P.1 = some (.tbl ps) ∧ TriplesOk ps.toList ∧ ∀ pos cv, codeAmong pos ps.toList = some cv → ∃ c, cv = .ref c ∧ G c = some (LamX.CodeO c P.2)
theorem TabOk.mono {K : PySem.W.Frag} {H G H' G' : Hp} (h : TabOk K H G) (k : ∀ P ps, H P = some (.tbl ps) → H' P = some (.tbl ps)) (g : Ex G G') : TabOk K H' G' := fun P hP => by
  obtain ⟨ps, h1, h2, h3⟩ := h P hP
  refine ⟨ps, k P.1 ps h1, h2, fun pos cv e => ?_⟩
  obtain ⟨c, e1, e2⟩ := h3 pos cv e
  exact ⟨c, e1, g c _ e2⟩
theorem TabOk.sub {K : PySem.W.Frag} {H G G' : Hp} (h : TabOk K H G) (g : ∀ c q, G c = some (LamX.CodeO c q) → G' c = some (LamX.CodeO c q)) : TabOk K H G' := fun P hP => by
  obtain ⟨ps, h1, h2, h3⟩ := h P hP
  refine ⟨ps, h1, h2, fun pos cv e => ?_⟩
  obtain ⟨c, e1, e2⟩ := h3 pos cv e
  exact ⟨c, e1, g c _ e2⟩
theorem TabOk.put {K : PySem.W.Frag} {H G G' : Hp} {p : Addr} {u : HO} (h : TabOk K H G) (n : ∀ ps, H p ≠ some (.tbl ps)) (g : Ex G G') : TabOk K (upd H p u) G' := h.mono (fun P ps e => by
  rw [upd_ne (fun z => n ps (by rw [← z]; exact e))]; exact e) g
theorem TabOk.new {K : PySem.W.Frag} {H G G' : Hp} {p : Addr} {u : HO} (h : TabOk K H G) (n : H p = none) (g : Ex G G') : TabOk K (upd H p u) G' := h.put (fun ps z => by rw [n] at z; cases z) g
/-- what was tracked and no data is no data still; the tables are in order, as they were -/
structure Nc (K : PySem.W.Frag) (He Ge H G : Hp) : Prop where
  nc : ∀ b, He b ≠ none → Ge b = none → G b = none
  t0 : TabOk K He Ge
  tb : TabOk K H G
instance {K : PySem.W.Frag} {He Ge H G : Hp} : CoeFun (Nc K He Ge H G) fun _ => ∀ b, He b ≠ none → Ge b = none → G b = none := ⟨fun h => h.nc⟩
/-- .. where the tables are in order behind it if they were ahead -/
structure Nw (K : PySem.W.Frag) (H G H' G' : Hp) : Prop where
  nc : ∀ b, H b ≠ none → G b = none → G' b = none
  tb : TabOk K H G → TabOk K H' G'
theorem Nw.refl {K : PySem.W.Frag} {H G : Hp} : Nw K H G H G := ⟨fun _ _ z => z, id⟩
theorem Nw.ok {K : PySem.W.Frag} {H G H' G' : Hp} (h : Nw K H G H' G') (t : TabOk K H G) : Nc K H G H' G' := ⟨h.nc, t, h.tb t⟩
structure OKG (K : PySem.W.Frag) (He Ge H G : Hp) (σ : St) (δ : List S) : Prop where
  ge : Ex Ge G
  gh : Ex G H
  he : Ex He H
  nc : Nc K He Ge H G
  sl : ∀ (i : Nat) (s : S), δ[i]? = some s → ∃ o, σ[i]? = some o ∧ SlotOk K He G H s o
  ne : ∀ (i j : Nat) (s t : S) (p : Addr), i ≠ j → δ[i]? = some s → δ[j]? = some t → owned s = true → owned t = true → σ[i]? = some (some (.ref p)) → σ[j]? = some (some (.ref p)) → False
def OK (K : PySem.W.Frag) (He Ge H : Hp) (σ : St) (δ : List S) : Prop := ∃ G, OKG K He Ge H G σ δ
theorem SlotOk.mono {K : PySem.W.Frag} {He G G' H H' : Hp} {s : S} {o : Option V} (e : Ex G G') (k : ∀ p u, He p = none → G p = none → H p = some u → ntb u = true → H' p = some u ∧ G' p = none) (h : SlotOk K He G H s o) : SlotOk K He G' H' s o := by
  cases s with
  | un => trivial
  | ot _ _ _ => trivial
  | d x => obtain ⟨v, e1, r⟩ := h; exact ⟨v, e1, r.mono e⟩
  | own xs =>
    obtain ⟨p, vs, e1, h1, h2, h3, r⟩ := h
    obtain ⟨k1, k2⟩ := k p _ h1 h2 h3 rfl
    exact ⟨p, vs, e1, h1, k2, k1, r.mono e⟩
  | okd xs =>
    obtain ⟨p, vs, e1, h1, h2, h3, r⟩ := h
    obtain ⟨k1, k2⟩ := k p _ h1 h2 h3 rfl
    exact ⟨p, vs, e1, h1, k2, k1, r.mono e⟩
  | oko xs =>
    obtain ⟨p, vs, e1, h1, h2, h3⟩ := h
    obtain ⟨k1, k2⟩ := k p _ h1 h2 h3 rfl
    exact ⟨p, vs, e1, h1, k2, k1⟩
  | ob q C fs =>
    obtain ⟨a, dx, gs, e1, hq, h1, h2, h3, h4, h5, h6, r⟩ := h
    obtain ⟨k1, k2⟩ := k a _ h1 h2 h5 rfl
    obtain ⟨k3, k4⟩ := k dx _ h3 h4 h6 rfl
    exact ⟨a, dx, gs, e1, hq, h1, k2, h3, k4, k1, k3, r.mono e⟩
section
variable {K : PySem.W.Frag} {He Ge H G : Hp} {σ : St} {δ : List S}
/-- the heap grows; G grows by what is new -/
theorem OKG.grow {H' G' : Hp} (h : OKG K He Ge H G σ δ) (e : Ex H H') (g : Ex G G') (gh : Ex G' H') (nc : Nc K H G H' G') : OKG K He Ge H' G' σ δ where
  ge := h.ge.trans g
  gh := gh
  he := h.he.trans e
  nc := ⟨fun b h1 h2 => nc b (fun q => h1 (h.he.none q)) (h.nc b h1 h2), h.nc.t0, nc.tb⟩
  sl := fun i s q => by
    obtain ⟨o, e1, k⟩ := h.sl i s q
    exact ⟨o, e1, k.mono g fun p u _ h2 h3 n => ⟨e.nt p u h3 n, nc p (by rw [h3]; exact fun z => nomatch z) h2⟩⟩
  ne := h.ne
/-- one more value on top -/
theorem OKG.push {s : S} {o : Option V} (h : OKG K He Ge H G σ δ) (k : SlotOk K He G H s o) (n : owned s = true → ∀ (j : Nat) (t : S) (p : Addr), o = some (.ref p) → δ[j]? = some t → owned t = true → σ[j]? = some (some (.ref p)) → False) : OKG K He Ge H G (o :: σ) (s :: δ) where
  ge := h.ge
  gh := h.gh
  he := h.he
  nc := h.nc
  sl := fun i t q => by
    cases i with
    | zero => simp at q; subst q; exact ⟨o, rfl, k⟩
    | succ i => simp at q; simpa using h.sl i t q
  ne := fun i j s' t p hij hi hj o1 o2 e1 e2 => by
    cases i with
    | zero =>
      cases j with
      | zero => exact hij rfl
      | succ j => simp at hi hj e1 e2; subst hi; exact n o1 j t p e1 hj o2 e2
    | succ i =>
      cases j with
      | zero => simp at hi hj e1 e2; subst hj; exact n o2 i s' p e2 hi o1 e1
      | succ j => simp at hi hj e1 e2; exact h.ne i j s' t p (fun z => hij (by rw [z])) hi hj o1 o2 e1 e2
theorem OKG.pop {s : S} {o : Option V} (h : OKG K He Ge H G (o :: σ) (s :: δ)) : OKG K He Ge H G σ δ where
  ge := h.ge
  gh := h.gh
  he := h.he
  nc := h.nc
  sl := fun i t q => by simpa using h.sl (i + 1) t (by simpa using q)
  ne := fun i j s' t p hij hi hj o1 o2 e1 e2 => h.ne (i + 1) (j + 1) s' t p (by omega) (by simpa using hi) (by simpa using hj) o1 o2 (by simpa using e1) (by simpa using e2)
theorem OKG.top {s : S} {o : Option V} (h : OKG K He Ge H G (o :: σ) (s :: δ)) : SlotOk K He G H s o := by
  obtain ⟨o', e, k⟩ := h.sl 0 s rfl
  cases e; exact k
theorem OKG.pushD {x : D} {v : V} (h : OKG K He Ge H G σ δ) (r : Rp K G x v) : OKG K He Ge H G (some v :: σ) (.d x :: δ) := h.push ⟨v, rfl, r⟩ fun z => nomatch z
/-- a new object that is data at once -/
theorem OKG.newG {p : Addr} {u : HO} (h : OKG K He Ge H G σ δ) (hp : H p = none) : OKG K He Ge (upd H p u) (upd G p u) σ δ := by
  have hg : G p = none := h.gh.none hp
  refine h.grow (.new hp) (.new hg) h.gh.both ⟨fun b h1 h2 => ?_, h.nc.tb, h.nc.tb.new hp (.new hg)⟩
  rw [upd_ne (fun q => h1 (by rw [q]; exact hp))]; exact h2
/-- a new object that is not told as data -/
theorem OKG.newH {p : Addr} {u : HO} (h : OKG K He Ge H G σ δ) (hp : H p = none) : OKG K He Ge (upd H p u) G σ δ :=
  h.grow (.new hp) (.refl G) (h.gh.trans (.new hp)) ⟨fun _ _ z => z, h.nc.tb, h.nc.tb.new hp (.refl G)⟩
/-- slots weaker: some forgotten -/
def weak : List S → List S → Prop := fun δ δ' => ∀ (i : Nat) (s : S), δ'[i]? = some s → δ[i]? = some s ∨ (s = .un ∧ ∃ t, δ[i]? = some t)
theorem OKG.weak {δ' : List S} (h : OKG K He Ge H G σ δ) (w : weak δ δ') : OKG K He Ge H G σ δ' where
  ge := h.ge
  gh := h.gh
  he := h.he
  nc := h.nc
  sl := fun i t q => by
    rcases w i t q with z | ⟨rfl, t, z⟩
    · exact h.sl i t z
    · obtain ⟨o, e, _⟩ := h.sl i t z
      exact ⟨o, e, trivial⟩
  ne := fun i j s' t p hij hi hj o1 o2 e1 e2 => by
    rcases w i _ hi with z | ⟨rfl, _, z⟩
    · rcases w j _ hj with z2 | ⟨rfl, _, z2⟩
      · exact h.ne i j s' t p hij z z2 o1 o2 e1 e2
      · cases o2
    · cases o1
theorem OKG.len (h : OKG K He Ge H G σ δ) : δ.length ≤ σ.length := by
  rcases Nat.lt_or_ge σ.length δ.length with q | q
  · obtain ⟨o, e, _⟩ := h.sl σ.length (δ[σ.length]) (List.getElem?_eq_getElem q)
    simp at e
  · exact q
/-- a slot is stored -/
theorem OKG.store {i : Nat} {s : S} {o : Option V} (h : OKG K He Ge H G (o :: σ) (s :: δ)) (hi : i < δ.length) : OKG K He Ge H G (σ.set i o) (δ.set i s) := by
  have hl : i < σ.length := Nat.lt_of_lt_of_le hi h.pop.len
  refine ⟨h.ge, h.gh, h.he, h.nc, fun j t q => ?_, fun j k s' t p hjk hj hk o1 o2 e1 e2 => ?_⟩
  · by_cases z : i = j
    · subst z
      rw [List.getElem?_set_self hi] at q; cases q
      rw [List.getElem?_set_self hl]
      exact ⟨o, rfl, h.top⟩
    · rw [List.getElem?_set_ne z] at q ⊢
      exact h.pop.sl j t q
  · by_cases z : i = j
    · subst z
      rw [List.getElem?_set_self hi] at hj; cases hj
      rw [List.getElem?_set_ne hjk] at hk e2
      rw [List.getElem?_set_self hl] at e1
      cases e1
      exact h.ne 0 (k + 1) s t p (by omega) rfl (by simpa using hk) o1 o2 rfl (by simpa using e2)
    · by_cases z2 : i = k
      · subst z2
        rw [List.getElem?_set_self hi] at hk; cases hk
        rw [List.getElem?_set_ne z] at hj e1
        rw [List.getElem?_set_self hl] at e2
        cases e2
        exact h.ne 0 (j + 1) s s' p (by omega) rfl (by simpa using hj) o2 o1 rfl (by simpa using e1)
      · rw [List.getElem?_set_ne z] at hj e1
        rw [List.getElem?_set_ne z2] at hk e2
        exact h.pop.ne j k s' t p hjk hj hk o1 o2 e1 e2
/-- the list on top is data from now on -/
theorem OKG.freezeX {xs : List D} {o : Option V} (h : OKG K He Ge H G (o :: σ) (.own xs :: δ)) : ∃ G', Ex G G' ∧ OKG K He Ge H G' (o :: σ) (.d (.lst xs) :: δ) := by
  obtain ⟨p, vs, rfl, h1, h2, h3, r⟩ := h.top
  refine ⟨upd G p (.lst vs), .new h2, OKG.push (OKG.mk ?_ ?_ h.he ⟨?_, h.nc.t0, h.nc.tb.mono (fun _ _ e => e) (.new h2)⟩ ?_ h.pop.ne) ⟨_, rfl, .lst upd_same (r.mono (.new h2))⟩ fun z => nomatch z⟩
  · exact h.ge.trans (.new h2)
  · refine ⟨fun a o e n => ?_, fun a ps e => ?_⟩
    · by_cases q : a = p
      · subst q; rw [upd_same] at e; cases e; exact h3
      · rw [upd_ne q] at e; exact h.gh.nt a o e n
    · by_cases q : a = p
      · subst q; rw [upd_same] at e; cases e
      · rw [upd_ne q] at e; exact h.gh.tb a ps e
  · intro b q1 q2
    have q : b ≠ p := fun z => q1 (by rw [z]; exact h1)
    rw [upd_ne q]; exact h.nc b q1 q2
  · intro i s q
    obtain ⟨o, e, k⟩ := h.pop.sl i s q
    refine ⟨o, e, ?_⟩
    cases s with
    | un => trivial
    | ot _ _ _ => trivial
    | d x => obtain ⟨v, e1, r'⟩ := k; exact ⟨v, e1, r'.mono (.new h2)⟩
    | own ys =>
      obtain ⟨p', vs', rfl, k1, k2, k3, r'⟩ := k
      have ne : p' ≠ p := fun z => h.ne 0 (i + 1) _ _ p (by omega) rfl (by simpa using q) rfl rfl rfl (by rw [← z]; simpa using e)
      exact ⟨p', vs', rfl, k1, by rw [upd_ne ne]; exact k2, k3, r'.mono (.new h2)⟩
    | okd ys =>
      obtain ⟨p', vs', rfl, k1, k2, k3, r'⟩ := k
      have ne : p' ≠ p := fun z => h.ne 0 (i + 1) _ _ p (by omega) rfl (by simpa using q) rfl rfl rfl (by rw [← z]; simpa using e)
      exact ⟨p', vs', rfl, k1, by rw [upd_ne ne]; exact k2, k3, r'.mono (.new h2)⟩
    | oko ys =>
      obtain ⟨p', vs', rfl, k1, k2, k3⟩ := k
      have ne : p' ≠ p := fun z => h.ne 0 (i + 1) _ _ p (by omega) rfl (by simpa using q) rfl rfl rfl (by rw [← z]; simpa using e)
      exact ⟨p', vs', rfl, k1, by rw [upd_ne ne]; exact k2, k3⟩
    | ob q C fs =>
      obtain ⟨a, dx, gs, rfl, kq, k1, k2, k3, k4, k5, k6, r'⟩ := k
      have n1 : a ≠ p := fun z => by rw [z, h3] at k5; cases k5
      have n2 : dx ≠ p := fun z => by rw [z, h3] at k6; cases k6
      exact ⟨a, dx, gs, rfl, kq, k1, by rw [upd_ne n1]; exact k2, k3, by rw [upd_ne n2]; exact k4, k5, k6, r'.mono (.new h2)⟩
theorem OKG.freeze {xs : List D} {o : Option V} (h : OKG K He Ge H G (o :: σ) (.own xs :: δ)) : ∃ G', OKG K He Ge H G' (o :: σ) (.d (.lst xs) :: δ) :=
  let ⟨G', _, k⟩ := h.freezeX; ⟨G', k⟩
/-- the dict on top is data from now on -/
theorem OKG.freezeK {xs : List (Key × D)} {o : Option V} (h : OKG K He Ge H G (o :: σ) (.okd xs :: δ)) : ∃ G', OKG K He Ge H G' (o :: σ) (.d (.dK xs) :: δ) := by
  obtain ⟨p, vs, rfl, h1, h2, h3, r⟩ := h.top
  refine ⟨upd G p (.dK vs), OKG.push (OKG.mk ?_ ?_ h.he ⟨?_, h.nc.t0, h.nc.tb.mono (fun _ _ e => e) (.new h2)⟩ ?_ h.pop.ne) ⟨_, rfl, .dK upd_same (r.mono (.new h2))⟩ fun z => nomatch z⟩
  · exact h.ge.trans (.new h2)
  · refine ⟨fun a o e n => ?_, fun a ps e => ?_⟩
    · by_cases q : a = p
      · subst q; rw [upd_same] at e; cases e; exact h3
      · rw [upd_ne q] at e; exact h.gh.nt a o e n
    · by_cases q : a = p
      · subst q; rw [upd_same] at e; cases e
      · rw [upd_ne q] at e; exact h.gh.tb a ps e
  · intro b q1 q2
    have q : b ≠ p := fun z => q1 (by rw [z]; exact h1)
    rw [upd_ne q]; exact h.nc b q1 q2
  · intro i s q
    obtain ⟨o, e, k⟩ := h.pop.sl i s q
    refine ⟨o, e, ?_⟩
    cases s with
    | un => trivial
    | ot _ _ _ => trivial
    | d x => obtain ⟨v, e1, r'⟩ := k; exact ⟨v, e1, r'.mono (.new h2)⟩
    | own ys =>
      obtain ⟨p', vs', rfl, k1, k2, k3, r'⟩ := k
      have ne : p' ≠ p := fun z => h.ne 0 (i + 1) _ _ p (by omega) rfl (by simpa using q) rfl rfl rfl (by rw [← z]; simpa using e)
      exact ⟨p', vs', rfl, k1, by rw [upd_ne ne]; exact k2, k3, r'.mono (.new h2)⟩
    | okd ys =>
      obtain ⟨p', vs', rfl, k1, k2, k3, r'⟩ := k
      have ne : p' ≠ p := fun z => h.ne 0 (i + 1) _ _ p (by omega) rfl (by simpa using q) rfl rfl rfl (by rw [← z]; simpa using e)
      exact ⟨p', vs', rfl, k1, by rw [upd_ne ne]; exact k2, k3, r'.mono (.new h2)⟩
    | oko ys =>
      obtain ⟨p', vs', rfl, k1, k2, k3⟩ := k
      have ne : p' ≠ p := fun z => h.ne 0 (i + 1) _ _ p (by omega) rfl (by simpa using q) rfl rfl rfl (by rw [← z]; simpa using e)
      exact ⟨p', vs', rfl, k1, by rw [upd_ne ne]; exact k2, k3⟩
    | ob q C fs =>
      obtain ⟨a, dx, gs, rfl, kq, k1, k2, k3, k4, k5, k6, r'⟩ := k
      have n1 : a ≠ p := fun z => by rw [z, h3] at k5; cases k5
      have n2 : dx ≠ p := fun z => by rw [z, h3] at k6; cases k6
      exact ⟨a, dx, gs, rfl, kq, k1, by rw [upd_ne n1]; exact k2, k3, by rw [upd_ne n2]; exact k4, k5, k6, r'.mono (.new h2)⟩
/-- the dict on top is data from now on -/
theorem OKG.freezeO {xs : List (KO × KO)} {o : Option V} (h : OKG K He Ge H G (o :: σ) (.oko xs :: δ)) : ∃ G', OKG K He Ge H G' (o :: σ) (.d (.dO xs) :: δ) := by
  obtain ⟨p, vs, rfl, h1, h2, h3⟩ := h.top
  refine ⟨upd G p (DO p vs xs), OKG.push (OKG.mk ?_ ?_ h.he ⟨?_, h.nc.t0, h.nc.tb.mono (fun _ _ e => e) (.new h2)⟩ ?_ h.pop.ne) ⟨_, rfl, .dO upd_same⟩ fun z => nomatch z⟩
  · exact h.ge.trans (.new h2)
  · refine ⟨fun a o e n => ?_, fun a ps e => ?_⟩
    · by_cases q : a = p
      · subst q; rw [upd_same] at e; cases e; exact h3
      · rw [upd_ne q] at e; exact h.gh.nt a o e n
    · by_cases q : a = p
      · subst q; rw [upd_same] at e; cases e
      · rw [upd_ne q] at e; exact h.gh.tb a ps e
  · intro b q1 q2
    have q : b ≠ p := fun z => q1 (by rw [z]; exact h1)
    rw [upd_ne q]; exact h.nc b q1 q2
  · intro i s q
    obtain ⟨o, e, k⟩ := h.pop.sl i s q
    refine ⟨o, e, ?_⟩
    cases s with
    | un => trivial
    | ot _ _ _ => trivial
    | d x => obtain ⟨v, e1, r'⟩ := k; exact ⟨v, e1, r'.mono (.new h2)⟩
    | own ys =>
      obtain ⟨p', vs', rfl, k1, k2, k3, r'⟩ := k
      have ne : p' ≠ p := fun z => h.ne 0 (i + 1) _ _ p (by omega) rfl (by simpa using q) rfl rfl rfl (by rw [← z]; simpa using e)
      exact ⟨p', vs', rfl, k1, by rw [upd_ne ne]; exact k2, k3, r'.mono (.new h2)⟩
    | okd ys =>
      obtain ⟨p', vs', rfl, k1, k2, k3, r'⟩ := k
      have ne : p' ≠ p := fun z => h.ne 0 (i + 1) _ _ p (by omega) rfl (by simpa using q) rfl rfl rfl (by rw [← z]; simpa using e)
      exact ⟨p', vs', rfl, k1, by rw [upd_ne ne]; exact k2, k3, r'.mono (.new h2)⟩
    | oko ys =>
      obtain ⟨p', vs', rfl, k1, k2, k3⟩ := k
      have ne : p' ≠ p := fun z => h.ne 0 (i + 1) _ _ p (by omega) rfl (by simpa using q) rfl rfl rfl (by rw [← z]; simpa using e)
      exact ⟨p', vs', rfl, k1, by rw [upd_ne ne]; exact k2, k3⟩
    | ob q C fs =>
      obtain ⟨a, dx, gs, rfl, kq, k1, k2, k3, k4, k5, k6, r'⟩ := k
      have n1 : a ≠ p := fun z => by rw [z, h3] at k5; cases k5
      have n2 : dx ≠ p := fun z => by rw [z, h3] at k6; cases k6
      exact ⟨a, dx, gs, rfl, kq, k1, by rw [upd_ne n1]; exact k2, k3, by rw [upd_ne n2]; exact k4, k5, k6, r'.mono (.new h2)⟩
/-- a list of one's own in slot i changes -/
theorem OKG.change {i : Nat} {xs ys : List D} {p : Addr} {vs us : List V} (h : OKG K He Ge H G σ δ) (hi : δ[i]? = some (.own xs)) (hp : σ[i]? = some (some (.ref p))) (hl : H p = some (.lst vs)) (r : RpL K G ys us) : OKG K He Ge (upd H p (.lst us)) G σ (δ.set i (.own ys)) := by
  obtain ⟨o, e, k⟩ := h.sl i _ hi
  obtain ⟨p', vs', e1, h1, h2, h3, r'⟩ := k
  rw [e] at hp
  cases hp
  cases e1
  have hlt : i < δ.length := (List.getElem?_eq_some_iff.mp hi).1
  refine ⟨h.ge, h.gh.put h2, h.he.put h1, ⟨h.nc, h.nc.t0, h.nc.tb.put (fun ps z => by rw [hl] at z; cases z) (.refl G)⟩, fun j t q => ?_, fun j k s' t p' hjk hj hk o1 o2 e1 e2 => ?_⟩
  · by_cases z : i = j
    · subst z
      rw [List.getElem?_set_self hlt] at q; cases q
      exact ⟨_, e, p, us, rfl, h1, h2, upd_same, r⟩
    · rw [List.getElem?_set_ne z] at q
      obtain ⟨o, eo, k⟩ := h.sl j t q
      refine ⟨o, eo, ?_⟩
      cases t with
      | un => trivial
      | ot _ _ _ => trivial
      | d x => exact k
      | own zs =>
        obtain ⟨p2, vs2, rfl, k1, k2, k3, r2⟩ := k
        have ne : p2 ≠ p := fun y => h.ne i j _ _ p z hi q rfl rfl e (by rw [← y]; exact eo)
        exact ⟨p2, vs2, rfl, k1, k2, by rw [upd_ne ne]; exact k3, r2⟩
      | okd zs =>
        obtain ⟨p2, vs2, rfl, k1, k2, k3, r2⟩ := k
        have ne : p2 ≠ p := fun y => h.ne i j _ _ p z hi q rfl rfl e (by rw [← y]; exact eo)
        exact ⟨p2, vs2, rfl, k1, k2, by rw [upd_ne ne]; exact k3, r2⟩
      | oko zs =>
        obtain ⟨p2, vs2, rfl, k1, k2, k3⟩ := k
        have ne : p2 ≠ p := fun y => h.ne i j _ _ p z hi q rfl rfl e (by rw [← y]; exact eo)
        exact ⟨p2, vs2, rfl, k1, k2, by rw [upd_ne ne]; exact k3⟩
      | ob q C fs =>
        obtain ⟨a, dx, gs, rfl, kq, k1, k2, k3, k4, k5, k6, r2⟩ := k
        have n1 : a ≠ p := fun y => by rw [y, hl] at k5; cases k5
        have n2 : dx ≠ p := fun y => by rw [y, hl] at k6; cases k6
        exact ⟨a, dx, gs, rfl, kq, k1, k2, k3, k4, by rw [upd_ne n1]; exact k5, by rw [upd_ne n2]; exact k6, r2⟩
  · have un : ∀ (m : Nat) (s : S), (δ.set i (.own ys))[m]? = some s → owned s = true → ∃ s2, δ[m]? = some s2 ∧ owned s2 = true := fun m s q q2 => by
      by_cases z : i = m
      · subst z; exact ⟨_, hi, rfl⟩
      · rw [List.getElem?_set_ne z] at q; exact ⟨s, q, q2⟩
    obtain ⟨s2, q1, q2⟩ := un j _ hj o1
    obtain ⟨t2, q3, q4⟩ := un k _ hk o2
    exact h.ne j k s2 t2 p' hjk q1 q3 q2 q4 e1 e2
/-- a dict of one's own in slot i changes -/
theorem OKG.changeK {i : Nat} {xs ys : List (Key × D)} {p : Addr} {vs us : List (Key × V)} (h : OKG K He Ge H G σ δ) (hi : δ[i]? = some (.okd xs)) (hp : σ[i]? = some (some (.ref p))) (hl : H p = some (.dK vs)) (r : RpK K G ys us) : OKG K He Ge (upd H p (.dK us)) G σ (δ.set i (.okd ys)) := by
  obtain ⟨o, e, k⟩ := h.sl i _ hi
  obtain ⟨p', vs', e1, h1, h2, h3, r'⟩ := k
  rw [e] at hp
  cases hp
  cases e1
  have hlt : i < δ.length := (List.getElem?_eq_some_iff.mp hi).1
  refine ⟨h.ge, h.gh.put h2, h.he.put h1, ⟨h.nc, h.nc.t0, h.nc.tb.put (fun ps z => by rw [hl] at z; cases z) (.refl G)⟩, fun j t q => ?_, fun j k s' t p' hjk hj hk o1 o2 e1 e2 => ?_⟩
  · by_cases z : i = j
    · subst z
      rw [List.getElem?_set_self hlt] at q; cases q
      exact ⟨_, e, p, us, rfl, h1, h2, upd_same, r⟩
    · rw [List.getElem?_set_ne z] at q
      obtain ⟨o, eo, k⟩ := h.sl j t q
      refine ⟨o, eo, ?_⟩
      cases t with
      | un => trivial
      | ot _ _ _ => trivial
      | d x => exact k
      | own zs =>
        obtain ⟨p2, vs2, rfl, k1, k2, k3, r2⟩ := k
        have ne : p2 ≠ p := fun y => h.ne i j _ _ p z hi q rfl rfl e (by rw [← y]; exact eo)
        exact ⟨p2, vs2, rfl, k1, k2, by rw [upd_ne ne]; exact k3, r2⟩
      | okd zs =>
        obtain ⟨p2, vs2, rfl, k1, k2, k3, r2⟩ := k
        have ne : p2 ≠ p := fun y => h.ne i j _ _ p z hi q rfl rfl e (by rw [← y]; exact eo)
        exact ⟨p2, vs2, rfl, k1, k2, by rw [upd_ne ne]; exact k3, r2⟩
      | oko zs =>
        obtain ⟨p2, vs2, rfl, k1, k2, k3⟩ := k
        have ne : p2 ≠ p := fun y => h.ne i j _ _ p z hi q rfl rfl e (by rw [← y]; exact eo)
        exact ⟨p2, vs2, rfl, k1, k2, by rw [upd_ne ne]; exact k3⟩
      | ob q C fs =>
        obtain ⟨a, dx, gs, rfl, kq, k1, k2, k3, k4, k5, k6, r2⟩ := k
        have n1 : a ≠ p := fun y => by rw [y, hl] at k5; cases k5
        have n2 : dx ≠ p := fun y => by rw [y, hl] at k6; cases k6
        exact ⟨a, dx, gs, rfl, kq, k1, k2, k3, k4, by rw [upd_ne n1]; exact k5, by rw [upd_ne n2]; exact k6, r2⟩
  · have un : ∀ (m : Nat) (s : S), (δ.set i (.okd ys))[m]? = some s → owned s = true → ∃ s2, δ[m]? = some s2 ∧ owned s2 = true := fun m s q q2 => by
      by_cases z : i = m
      · subst z; exact ⟨_, hi, rfl⟩
      · rw [List.getElem?_set_ne z] at q; exact ⟨s, q, q2⟩
    obtain ⟨s2, q1, q2⟩ := un j _ hj o1
    obtain ⟨t2, q3, q4⟩ := un k _ hk o2
    exact h.ne j k s2 t2 p' hjk q1 q3 q2 q4 e1 e2
/-- a dict of one's own in slot i changes -/
theorem OKG.changeO {i : Nat} {xs ys : List (KO × KO)} {p : Addr} {vs us : Obj} (h : OKG K He Ge H G σ δ) (hi : δ[i]? = some (.oko xs)) (hp : σ[i]? = some (some (.ref p))) (hl : H p = some (DO p vs xs)) : OKG K He Ge (upd H p (DO p us ys)) G σ (δ.set i (.oko ys)) := by
  obtain ⟨o, e, k⟩ := h.sl i _ hi
  obtain ⟨p', vs', e1, h1, h2, h3⟩ := k
  rw [e] at hp
  cases hp
  cases e1
  have hlt : i < δ.length := (List.getElem?_eq_some_iff.mp hi).1
  refine ⟨h.ge, h.gh.put h2, h.he.put h1, ⟨h.nc, h.nc.t0, h.nc.tb.put (fun ps z => by rw [hl] at z; cases z) (.refl G)⟩, fun j t q => ?_, fun j k s' t p' hjk hj hk o1 o2 e1 e2 => ?_⟩
  · by_cases z : i = j
    · subst z
      rw [List.getElem?_set_self hlt] at q; cases q
      exact ⟨_, e, p, us, rfl, h1, h2, upd_same⟩
    · rw [List.getElem?_set_ne z] at q
      obtain ⟨o, eo, k⟩ := h.sl j t q
      refine ⟨o, eo, ?_⟩
      cases t with
      | un => trivial
      | ot _ _ _ => trivial
      | d x => exact k
      | own zs =>
        obtain ⟨p2, vs2, rfl, k1, k2, k3, r2⟩ := k
        have ne : p2 ≠ p := fun y => h.ne i j _ _ p z hi q rfl rfl e (by rw [← y]; exact eo)
        exact ⟨p2, vs2, rfl, k1, k2, by rw [upd_ne ne]; exact k3, r2⟩
      | okd zs =>
        obtain ⟨p2, vs2, rfl, k1, k2, k3, r2⟩ := k
        have ne : p2 ≠ p := fun y => h.ne i j _ _ p z hi q rfl rfl e (by rw [← y]; exact eo)
        exact ⟨p2, vs2, rfl, k1, k2, by rw [upd_ne ne]; exact k3, r2⟩
      | oko zs =>
        obtain ⟨p2, vs2, rfl, k1, k2, k3⟩ := k
        have ne : p2 ≠ p := fun y => h.ne i j _ _ p z hi q rfl rfl e (by rw [← y]; exact eo)
        exact ⟨p2, vs2, rfl, k1, k2, by rw [upd_ne ne]; exact k3⟩
      | ob q C fs =>
        obtain ⟨a, dx, gs, rfl, kq, k1, k2, k3, k4, k5, k6, r2⟩ := k
        have n1 : a ≠ p := fun y => by rw [y, hl] at k5; cases k5
        have n2 : dx ≠ p := fun y => by rw [y, hl] at k6; cases k6
        exact ⟨a, dx, gs, rfl, kq, k1, k2, k3, k4, by rw [upd_ne n1]; exact k5, by rw [upd_ne n2]; exact k6, r2⟩
  · have un : ∀ (m : Nat) (s : S), (δ.set i (.oko ys))[m]? = some s → owned s = true → ∃ s2, δ[m]? = some s2 ∧ owned s2 = true := fun m s q q2 => by
      by_cases z : i = m
      · subst z; exact ⟨_, hi, rfl⟩
      · rw [List.getElem?_set_ne z] at q; exact ⟨s, q, q2⟩
    obtain ⟨s2, q1, q2⟩ := un j _ hj o1
    obtain ⟨t2, q3, q4⟩ := un k _ hk o2
    exact h.ne j k s2 t2 p' hjk q1 q3 q2 q4 e1 e2
end
end Far
/-! Expressions, targets, sources, statements told over data alone. -/
namespace Far
open PySem L2

/-- what a def comes to: a value, or an exception of the class at c with fields -/
inductive Out where
  | ret (s : S) | exc (c : Addr) (fs : List (Str × D))
def XOk (K : PySem.W.Frag) (G H : Hp) (c : Addr) (fs : List (Str × D)) (cls : Value) (d : Option Addr) : Prop :=
  cls = .ref c ∧ ((fs = [] ∧ d = none) ∨ ∃ dd gs, d = some dd ∧ G dd = some (.xd gs) ∧ RpF K G fs gs ∧ fs ≠ [])
/-- a tuple that holds one list of one's own, between data -/
def OtOk (K : PySem.W.Frag) (He G H : Hp) (A xs B : List D) (v : V) : Prop := ∃ (p q : Addr) (vs us ws : List V), v = .ref p ∧ (He p = none ∧ ∃ o : Obj, H p = some (.frz o (.tup (vs ++ .ref q :: ws))) ∧ o.cls = .type "tuple" ∧ o.dict = none) ∧ RpL K G A vs ∧ RpL K G B ws ∧ He q = none ∧ G q = none ∧ H q = some (.lst us) ∧ RpL K G xs us
def OtI (K : PySem.W.Frag) (He G H : Hp) (v : V) : S → Prop
  | .ot A xs B => OtOk K He G H A xs B v | _ => True
def notOt : S → Bool
  | .ot _ _ _ => false | _ => true
theorem oti_of {K : PySem.W.Frag} {He G H : Hp} {v : V} {s : S} (h : notOt s = true) : OtI K He G H v s := by
  cases s with
  | ot A xs B => cases h
  | _ => trivial
def OKr (K : PySem.W.Frag) (He Ge H : Hp) (v : V) (σ : St) (s : S) (δ : List S) : Prop := ∃ G, OKG K He Ge H G (some v :: σ) (s :: δ) ∧ OtI K He G H v s
section
variable (K : PySem.W.Frag)
def EV (te : TE) (δ : List S) (s : S) : Prop := ∀ (He Ge H : Hp) (τo : St) (τs : List S) (σ : St), τo.length = τs.length → OK K He Ge H (τo ++ σ) (τs ++ δ) →
  ∀ Q : VK, (∀ v H', OK K He Ge H' (some v :: (τo ++ σ)) (s :: (τs ++ δ)) → Q v H') → te σ H Q
def EB (tt : TT) (δ : List S) (b : Bool) : Prop := ∀ (He Ge H : Hp) (τo : St) (τs : List S) (σ : St), τo.length = τs.length → OK K He Ge H (τo ++ σ) (τs ++ δ) →
  ∀ Q : Bool → Hp → Prop, (∀ H', OK K He Ge H' (τo ++ σ) (τs ++ δ) → Q b H') → tt σ H Q
def EA (ta : TA) (δ : List S) (xs : List D) : Prop := ∀ (He Ge H : Hp) (τo : St) (τs : List S) (σ : St), τo.length = τs.length → OK K He Ge H (τo ++ σ) (τs ++ δ) →
  ∀ Q : List V → Hp → Prop, (∀ vs H' G', OKG K He Ge H' G' (τo ++ σ) (τs ++ δ) → RpL K G' xs vs → Q vs H') → ta σ H Q
/-- a two-place operation on data -/
def RV2 (r : R2) (x y : D) (s : S) : Prop := ∀ (He Ge H G : Hp) (σ : St) (δ : List S) (v u : V), OKG K He Ge H G σ δ → Rp K G x v → Rp K G y u →
  ∀ Q : VK, (∀ z H', OK K He Ge H' (some z :: σ) (s :: δ) → Q z H') → r v u H Q
def RV1 (r : V → Hp → VK → Prop) (x : D) (s : S) : Prop := ∀ (He Ge H G : Hp) (σ : St) (δ : List S) (v : V), OKG K He Ge H G σ δ → Rp K G x v →
  ∀ Q : VK, (∀ z H', OK K He Ge H' (some z :: σ) (s :: δ) → Q z H') → r v H Q
def RVN (r : List V → Hp → VK → Prop) (xs : List D) (s : S) : Prop := ∀ (He Ge H G : Hp) (σ : St) (δ : List S) (vs : List V), OKG K He Ge H G σ δ → RpL K G xs vs →
  ∀ Q : VK, (∀ z H', OK K He Ge H' (some z :: σ) (s :: δ) → Q z H') → r vs H Q
/-- the iterator hands on the data xs, one by one, each of what stands or of what is new -/
def JIg (G : Hp) (J : It) (xs : List D) : Prop := ∀ H G1, Ex G G1 → Ex G1 H → (∀ i, i < xs.length → J.go i H) ∧ (∀ i x H', J.yld i H x H' → i < xs.length →
  ∃ G2 y, Ex H H' ∧ Ex G1 G2 ∧ Ex G2 H' ∧ Nw K H G1 H' G2 ∧ xs[i]? = some y ∧ Rp K G2 y x) ∧ ∀ i, xs.length ≤ i → J.stop i H
/-- the iterator hands on the values vs, one by one, wherever G stands -/
def JIs (G : Hp) (J : It) (vs : List V) : Prop := ∀ H, Ex G H → (∀ i, i < vs.length → J.go i H) ∧ (∀ i x H', J.yld i H x H' → H' = H ∧ (i < vs.length → vs[i]? = some x)) ∧ ∀ i, vs.length ≤ i → J.stop i H
def EI (wi : TI) (δ : List S) (xs : List D) : Prop := ∀ (He Ge H : Hp) (τo : St) (τs : List S) (σ : St), τo.length = τs.length → OK K He Ge H (τo ++ σ) (τs ++ δ) →
  ∀ R : It → Hp → Prop, (∀ J H' G', OKG K He Ge H' G' (τo ++ σ) (τs ++ δ) → JIg K G' J xs → R J H') → wi σ H R
/-- a target that takes x -/
def ET (g : TG) (δ : List S) (x : D) (δ' : List S) : Prop := ∀ (He Ge H G : Hp) (τo : St) (τs : List S) (σ : St) (v : V), τo.length = τs.length → OKG K He Ge H G (τo ++ σ) (τs ++ δ) → Rp K G x v →
  ∀ Q : St → Hp → Prop, (∀ σ', OKG K He Ge H G (τo ++ σ') (τs ++ δ') → Q σ' H) → g v σ H Q
abbrev NoS : List S → Prop := fun _ => False
abbrev NoX : List S → Addr → List (Str × D) → Prop := fun _ _ _ => False
/-- a statement over the slots δ: N the slots behind it, R what it hands back, B at a break, C at a continue, X what it raises -/
def SD (E : WX) (t : TS) (δ : List S) (N : List S → Prop) (R : S → List S → Prop) (B C : List S → Prop) (X : List S → Addr → List (Str × D) → Prop) : Prop := ∀ (He Ge H : Hp) (σ : St) (Dn : Ends), OK K He Ge H σ δ →
  (∀ δ' σ' H', OK K He Ge H' σ' δ' → N δ' → Dn.nx σ' H') → (∀ v s σ' δ' H', OKr K He Ge H' v σ' s δ' → R s δ' → Dn.rt v H') →
  (∀ δ' σ' H', OK K He Ge H' σ' δ' → B δ' → Dn.bk σ' H') → (∀ δ' σ' H', OK K He Ge H' σ' δ' → C δ' → Dn.ct σ' H') →
  (∀ c fs cls d G' σ' δ' H', OKG K He Ge H' G' σ' δ' → XOk K G' H' c fs cls d → X δ' c fs → E cls d σ' H') → t Dn σ H
/-- a def's promise told over data -/
def spD (R : List D → Out → Prop) : Sp := fun vs H Q E => ∃ G xs out, (Ex G H ∧ TabOk K H G) ∧ RpL K G xs vs ∧ R xs out ∧
  (∀ v s G' H', out = .ret s → Ex G G' → Ex G' H' → Ex H H' → Nc K H G H' G' → SlotOk K H G' H' s (some v) → OtI K H G' H' v s → Q v H') ∧
  (∀ c fs cls d G' H', out = .exc c fs → Ex G G' → Ex G' H' → Ex H H' → Nc K H G H' G' → XOk K G' H' c fs cls d → E cls d H')
end

section
variable {K : PySem.W.Frag} {δ : List S} {te ta tb : TE} {x y z : D} {s : S}
theorem len_append {α β : Type} {a : List α} {b : List β} {c : List α} {d : List β} (h : a.length = b.length) (i : Nat) : (b ++ d)[b.length + i]? = d[i]? ∧ (a ++ c)[b.length + i]? = c[i]? := by
  constructor
  · rw [List.getElem?_append_right (Nat.le_add_right _ _), Nat.add_sub_cancel_left]
  · rw [← h, List.getElem?_append_right (Nat.le_add_right _ _), Nat.add_sub_cancel_left]
theorem jig_of {G : Hp} {J : It} {xs : List D} {vs : List V} (r : RpL K G xs vs) (j : JIs G J vs) : JIg K G J xs := fun H G1 e1 e2 => by
  obtain ⟨j1, j2, j3⟩ := j H (e1.trans e2)
  have hl := r.length
  refine ⟨fun i hi => j1 i (by omega), fun i x H' hy hi => ?_, fun i hi => j3 i (by omega)⟩
  obtain ⟨rfl, k⟩ := j2 i x H' hy
  have ex := k (by omega)
  obtain ⟨y, ey, ry⟩ := r.getV ex
  exact ⟨G1, y, .refl _, .refl _, e2, .refl, ey, ry.mono e1⟩
theorem ev_var {i : Nat} (h : δ[i]? = some (.d x)) : EV K (tVar i) δ (.d x) := by
  intro He Ge H τo τs σ hl ⟨G, ok⟩ Q q
  obtain ⟨e1, e2⟩ := len_append (d := δ) (c := σ) hl i
  obtain ⟨o, eo, v, rfl, r⟩ := ok.sl (τs.length + i) _ (e1.trans h)
  exact ⟨v, e2.symm.trans eo, q v H ⟨G, ok.pushD r⟩⟩
theorem ev_rp {v : V} (r : ∀ G, Rp K G x v) : EV K (tC v) δ (.d x) := by
  intro He Ge H τo τs σ hl ⟨G, ok⟩ Q q
  exact q v H ⟨G, ok.pushD (r G)⟩
theorem ev_int {i : Int} : EV K (tC (.int i)) δ (.d (.int i)) := ev_rp fun _ => .int
theorem ev_bl {b : Bool} : EV K (tC (.bl b)) δ (.d (.bl b)) := ev_rp fun _ => .bl
theorem ev_non : EV K (tC .non) δ (.d .non) := ev_rp fun _ => .non
theorem ev_str {x : Str} : EV K (tC (.str x)) δ (.d (.str x)) := ev_rp fun _ => .str
theorem ev_ty {n : String} : EV K (tC (.ty n)) δ (.d (.ty n)) := ev_rp fun _ => .ty
theorem ev_cls {a : Addr} : EV K (tC (.ref a)) δ (.d (.cls a)) := ev_rp fun _ => .cls
theorem ev_is {s' : S} (h : EV K te δ s) (e : s = s') : EV K te δ s' := e ▸ h
theorem ev_frz {xs : List D} (h : EV K te δ (.own xs)) : EV K te δ (.d (.lst xs)) := by
  intro He Ge H τo τs σ hl ok Q q
  refine h He Ge H τo τs σ hl ok _ fun v H' ⟨G', ok'⟩ => ?_
  obtain ⟨G2, ok2⟩ := ok'.freeze
  exact q v H' ⟨G2, ok2⟩
theorem ev_frzK {kvs : List (Key × D)} (h : EV K te δ (.okd kvs)) : EV K te δ (.d (.dK kvs)) := by
  intro He Ge H τo τs σ hl ok Q q
  refine h He Ge H τo τs σ hl ok _ fun v H' ⟨G', ok'⟩ => ?_
  obtain ⟨G2, ok2⟩ := ok'.freezeK
  exact q v H' ⟨G2, ok2⟩
theorem ev_frzO {kvs : List (KO × KO)} (h : EV K te δ (.oko kvs)) : EV K te δ (.d (.dO kvs)) := by
  intro He Ge H τo τs σ hl ok Q q
  refine h He Ge H τo τs σ hl ok _ fun v H' ⟨G', ok'⟩ => ?_
  obtain ⟨G2, ok2⟩ := ok'.freezeO
  exact q v H' ⟨G2, ok2⟩
theorem ev_op {r : R2} (ha : EV K ta δ (.d x)) (hb : EV K tb δ (.d y)) (hr : RV2 K r x y s) : EV K (tOp r ta tb) δ s := by
  intro He Ge H τo τs σ hl ok Q q
  refine ha He Ge H τo τs σ hl ok _ fun v H1 ok1 => ?_
  refine hb He Ge H1 (some v :: τo) (.d x :: τs) σ (by simp [hl]) ok1 _ fun u H2 ok2 => ?_
  obtain ⟨G, ok2⟩ := ok2
  obtain ⟨_, e1, r1⟩ := ok2.top
  obtain ⟨_, e2, r2⟩ := ok2.pop.top
  cases e1; cases e2
  exact hr He Ge H2 G _ _ v u ok2.pop.pop r2 r1 Q q
theorem ev_un {r : V → Hp → VK → Prop} (ha : EV K ta δ (.d x)) (hr : RV1 K r x s) : EV K (tUn r ta) δ s := by
  intro He Ge H τo τs σ hl ok Q q
  refine ha He Ge H τo τs σ hl ok _ fun v H1 ⟨G, ok1⟩ => ?_
  obtain ⟨_, e1, r1⟩ := ok1.top
  cases e1
  exact hr He Ge H1 G _ _ v ok1.pop r1 Q q
theorem ea_nil : EA K tNil δ [] := by
  intro He Ge H τo τs σ hl ⟨G, ok⟩ Q q
  exact q [] H G ok .nil
theorem ea_cons {tr : TA} {xs : List D} (ha : EV K ta δ (.d x)) (hr : EA K tr δ xs) : EA K (tCons ta tr) δ (x :: xs) := by
  intro He Ge H τo τs σ hl ok Q q
  refine ha He Ge H τo τs σ hl ok _ fun v H1 ok1 => ?_
  refine hr He Ge H1 (some v :: τo) (.d x :: τs) σ (by simp [hl]) ok1 _ fun vs H2 G2 ok2 r2 => ?_
  obtain ⟨_, e1, r1⟩ := ok2.top
  cases e1
  exact q (v :: vs) H2 G2 ok2.pop (.cons r1 r2)
theorem ev_cb {r : List V → Hp → VK → Prop} {tr : TA} {xs : List D} (ha : EA K tr δ xs) (hr : RVN K r xs s) : EV K (tCB r tr) δ s := by
  intro He Ge H τo τs σ hl ok Q q
  exact ha He Ge H τo τs σ hl ok _ fun vs H1 G ok1 r1 => hr He Ge H1 G _ _ vs ok1 r1 Q q
/-! tests -/
variable {t u : TT} {a b : Bool}
theorem eb_test (h : EV K te δ (.d (.bl b))) : EB K (tTest te) δ b := by
  intro He Ge H τo τs σ hl ok Q q
  refine h He Ge H τo τs σ hl ok _ fun v H1 ⟨G, ok1⟩ => ?_
  obtain ⟨_, e1, r1⟩ := ok1.top
  cases e1; cases r1
  exact ⟨b, rfl, q H1 ⟨G, ok1.pop⟩⟩
theorem eb_B (h : EV K te δ (.d (.bl b))) : EB K (tB te) δ b := by
  intro He Ge H τo τs σ hl ok Q q
  refine h He Ge H τo τs σ hl ok _ fun v H1 ⟨G, ok1⟩ => ?_
  obtain ⟨_, e1, r1⟩ := ok1.top
  cases e1; cases r1
  exact ⟨b, rfl, q H1 ⟨G, ok1.pop⟩⟩
theorem eb_and (h1 : EB K t δ a) (h2 : a = true → EB K u δ b) : EB K (tAnd t u) δ (a && b) := by
  intro He Ge H τo τs σ hl ok Q q
  refine h1 He Ge H τo τs σ hl ok _ fun H1 ok1 => ?_
  cases a with
  | true => exact iteT (h2 rfl He Ge H1 τo τs σ hl ok1 Q q)
  | false => exact iteF (q H1 ok1)
theorem eb_or (h1 : EB K t δ a) (h2 : a = false → EB K u δ b) : EB K (tOr t u) δ (a || b) := by
  intro He Ge H τo τs σ hl ok Q q
  refine h1 He Ge H τo τs σ hl ok _ fun H1 ok1 => ?_
  cases a with
  | true => exact iteT (q H1 ok1)
  | false => exact iteF (h2 rfl He Ge H1 τo τs σ hl ok1 Q q)
theorem eb_not (h1 : EB K t δ a) : EB K (tNot t) δ (!a) := by
  intro He Ge H τo τs σ hl ok Q q
  exact h1 He Ge H τo τs σ hl ok _ fun H1 ok1 => q H1 ok1
theorem eb_is (h : EB K t δ a) (e : a = b) : EB K t δ b := e ▸ h
/-- a test whose value alone is asked in one way (short) -/
theorem eb_andF (h1 : EB K t δ false) : EB K (tAnd t u) δ false := eb_and (b := false) h1 fun z => nomatch z
theorem eb_orT (h1 : EB K t δ true) : EB K (tOr t u) δ true := eb_or (b := false) h1 fun z => nomatch z
theorem ev_andV (h1 : EV K ta δ (.d (.bl a))) (h2 : a = true → EV K tb δ (.d (.bl b))) : EV K (tAndV ta tb) δ (.d (.bl (a && b))) := by
  intro He Ge H τo τs σ hl ok Q q
  refine h1 He Ge H τo τs σ hl ok _ fun v H1 ⟨G, ok1⟩ => ?_
  obtain ⟨_, e1, r1⟩ := ok1.top
  cases e1; cases r1
  refine ⟨a, rfl, ?_⟩
  cases a with
  | true => exact iteT (h2 rfl He Ge H1 τo τs σ hl ⟨G, ok1.pop⟩ Q q)
  | false => exact iteF (q _ H1 ⟨G, ok1⟩)
theorem ev_orV (h1 : EV K ta δ (.d (.bl a))) (h2 : a = false → EV K tb δ (.d (.bl b))) : EV K (tOrV ta tb) δ (.d (.bl (a || b))) := by
  intro He Ge H τo τs σ hl ok Q q
  refine h1 He Ge H τo τs σ hl ok _ fun v H1 ⟨G, ok1⟩ => ?_
  obtain ⟨_, e1, r1⟩ := ok1.top
  cases e1; cases r1
  refine ⟨a, rfl, ?_⟩
  cases a with
  | true => exact iteT (q _ H1 ⟨G, ok1⟩)
  | false => exact iteF (h2 rfl He Ge H1 τo τs σ hl ⟨G, ok1.pop⟩ Q q)
theorem ev_notV (h1 : EV K ta δ (.d (.bl a))) : EV K (tNotV ta) δ (.d (.bl (!a))) := by
  intro He Ge H τo τs σ hl ok Q q
  refine h1 He Ge H τo τs σ hl ok _ fun v H1 ⟨G, ok1⟩ => ?_
  obtain ⟨_, e1, r1⟩ := ok1.top
  cases e1; cases r1
  exact ⟨a, rfl, q _ H1 ⟨G, ok1.pop.pushD .bl⟩⟩
theorem ev_if {s1 s2 : S} (h : EB K t δ b) (h1 : b = true → EV K ta δ s1) (h2 : b = false → EV K tb δ s2) : EV K (tIf t ta tb) δ (if b = true then s1 else s2) := by
  intro He Ge H τo τs σ hl ok Q q
  refine h He Ge H τo τs σ hl ok _ fun H1 ok1 => ?_
  cases b with
  | true => exact iteT (h1 rfl He Ge H1 τo τs σ hl ok1 Q q)
  | false => exact iteF (h2 rfl He Ge H1 τo τs σ hl ok1 Q q)
/-- .. both ways to one thing -/
theorem ev_if1 (h : EB K t δ b) (h1 : b = true → EV K ta δ s) (h2 : b = false → EV K tb δ s) : EV K (tIf t ta tb) δ s := by
  intro He Ge H τo τs σ hl ok Q q
  refine h He Ge H τo τs σ hl ok _ fun H1 ok1 => ?_
  cases b with
  | true => exact iteT (h1 rfl He Ge H1 τo τs σ hl ok1 Q q)
  | false => exact iteF (h2 rfl He Ge H1 τo τs σ hl ok1 Q q)
/-! displays -/
/-- (a, b, ..) -/
def tTupP (t : TA) : TE := fun σ H Q => t σ H fun xs H1 => xs.length ≤ sizeLine ∧ NewT H1 xs Q
theorem ev_tup {tr : TA} {xs : List D} (h : EA K tr δ xs) (hz : xs.length ≤ sizeLine) : EV K (tTupP tr) δ (.d (.tup xs)) := by
  intro He Ge H τo τs σ hl ok Q q
  refine h He Ge H τo τs σ hl ok _ fun vs H1 G ok1 r1 => ⟨by rw [← r1.length]; exact hz, fun p o hp hc hd => ?_⟩
  exact q _ _ ⟨_, (ok1.newG hp).pushD (.tup (.inl ⟨o, upd_same, hc, hd⟩) (r1.mono (.new (ok1.gh.none hp))))⟩
theorem OKG.newOwn {He Ge H G : Hp} {σ : St} {δ : List S} {p : Addr} {xs : List D} {vs : List V} (ok : OKG K He Ge H G σ δ) (hp : H p = none) (r : RpL K G xs vs) : OKG K He Ge (upd H p (.lst vs)) G (some (.ref p) :: σ) (.own xs :: δ) := by
  refine (ok.newH hp).push ⟨p, vs, rfl, ok.he.none hp, ok.gh.none hp, upd_same, r⟩ fun _ j t p' e hj ho eσ => ?_
  cases e
  obtain ⟨o, eo, k⟩ := ok.sl j t hj
  rw [eo] at eσ
  cases eσ
  cases t with
  | un => cases ho
  | ot _ _ _ => cases ho
  | d x => cases ho
  | own ys => obtain ⟨p', vs', e, _, _, h3, _⟩ := k; cases e; rw [hp] at h3; cases h3
  | okd ys => obtain ⟨p', vs', e, _, _, h3, _⟩ := k; cases e; rw [hp] at h3; cases h3
  | oko ys => obtain ⟨p', vs', e, _, _, h3⟩ := k; cases e; rw [hp] at h3; cases h3
  | ob q C fs => obtain ⟨a, dx, gs, e, _, _, _, _, _, h5, _⟩ := k; cases e; rw [hp] at h5; cases h5
theorem ev_lst {tr : TA} {xs : List D} (h : EA K tr δ xs) (hz : xs.length ≤ sizeLine) : EV K (tLst tr) δ (.own xs) := by
  intro He Ge H τo τs σ hl ok Q q
  refine h He Ge H τo τs σ hl ok _ fun vs H1 G ok1 r1 => ⟨by rw [← r1.length]; exact hz, fun p hp => ?_⟩
  exact q _ _ ⟨_, ok1.newOwn hp r1⟩
/-! calls -/
theorem ev_call {R : List D → Out → Prop} {E : XK} {tr : TA} {xs : List D} (h : EA K tr δ xs) (hr : R xs (.ret s)) : EV K (tCall (spD K R) [] E tr) δ s := by
  intro He Ge H τo τs σ hl ok Q q
  refine h He Ge H τo τs σ hl ok _ fun vs H1 G ok1 r1 => ?_
  refine ⟨G, xs, .ret s, ⟨ok1.gh, ok1.nc.tb⟩, by simpa using r1, hr, fun v s' G' H' e g1 g2 g3 nc k _ => ?_, fun c fs cls d G' H' e => nomatch e⟩
  cases e
  refine q v H' ⟨G', (ok1.grow g3 g1 g2 nc).push ?_ fun ho j t p e hj hoj eσ => ?_⟩
  · cases s with
    | un => trivial
    | ot _ _ _ => trivial
    | d x => exact k
    | own ys => obtain ⟨p, us, e, h1, h2, h3, r⟩ := k; exact ⟨p, us, e, ok1.he.none h1, h2, h3, r⟩
    | okd ys => obtain ⟨p, us, e, h1, h2, h3, r⟩ := k; exact ⟨p, us, e, ok1.he.none h1, h2, h3, r⟩
    | oko ys => obtain ⟨p, us, e, h1, h2, h3⟩ := k; exact ⟨p, us, e, ok1.he.none h1, h2, h3⟩
    | ob q C fs => obtain ⟨a, dx, gs, e, hq, h1, h2, h3, h4, h5, h6, r⟩ := k; exact ⟨a, dx, gs, e, hq, ok1.he.none h1, h2, ok1.he.none h3, h4, h5, h6, r⟩
  · cases e
    have hn : H1 p = none := by
      cases s with
      | un => cases ho
      | ot _ _ _ => cases ho
      | d x => cases ho
      | own ys => obtain ⟨p', us, e, h1, _⟩ := k; cases e; exact h1
      | okd ys => obtain ⟨p', us, e, h1, _⟩ := k; cases e; exact h1
      | oko ys => obtain ⟨p', us, e, h1, _⟩ := k; cases e; exact h1
      | ob q C fs => obtain ⟨a, dx, gs, e, _, h1, _⟩ := k; cases e; exact h1
    obtain ⟨o, eo, k2⟩ := ok1.sl j t hj
    rw [eo] at eσ
    cases eσ
    cases t with
    | un => cases hoj
    | ot _ _ _ => cases hoj
    | d x => cases hoj
    | own ys => obtain ⟨p', vs', e, _, _, h3, _⟩ := k2; cases e; rw [hn] at h3; cases h3
    | okd ys => obtain ⟨p', vs', e, _, _, h3, _⟩ := k2; cases e; rw [hn] at h3; cases h3
    | oko ys => obtain ⟨p', vs', e, _, _, h3⟩ := k2; cases e; rw [hn] at h3; cases h3
    | ob q C fs => obtain ⟨a, dx, gs, e, _, _, _, _, _, h5, _⟩ := k2; cases e; rw [hn] at h5; cases h5
/-! targets, sources -/
theorem set_off {α : Type} (a b : List α) (i : Nat) (o : α) : (a ++ b).set (a.length + i) o = a ++ b.set i o := by
  rw [List.set_append_right _ _ (Nat.le_add_right _ _), Nat.add_sub_cancel_left]
theorem et_name {i : Nat} (hi : i < δ.length) : ET K (gName i) δ x (δ.set i (.d x)) := by
  intro He Ge H G τo τs σ v hl ok r Q q
  refine q _ ?_
  have k := (ok.pushD r).store (i := τs.length + i) (by rw [List.length_append]; omega)
  rw [set_off τs, ← hl, set_off τo] at k
  exact k
end
end Far
/-! Sources, comprehensions, statements, loops, defs told over data. -/
namespace Far
open PySem L2
section
variable {K : PySem.W.Frag} {δ : List S} {te ta tb : TE} {x y z : D} {s : S} {xs : List D}
/-! ### sources -/
theorem jis_list {G : Hp} {a : Addr} {vs : List V} (h : SqL K G a vs) (inj : ∀ H ys, Ex G H → SqL K H a ys → ys = vs) : JIs G (Itl K a) vs := fun H e =>
  ⟨fun i hi => ⟨vs, vs[i], e.l h, List.getElem?_eq_getElem hi⟩, fun i x H' q => ⟨q.1, fun hi => q.2 vs (e.l h)⟩, fun i hi => ⟨vs, e.l h, hi⟩⟩
theorem ei_list (h : EV K te δ (.d (.lst xs))) : EI K (iList K te) δ xs := by
  intro He Ge H τo τs σ hl ok R q
  refine h He Ge H τo τs σ hl ok _ fun v H1 ⟨G, ok1⟩ => ?_
  obtain ⟨_, e1, r1⟩ := ok1.top
  cases e1
  cases r1 with
  | lst hp r =>
    exact ⟨_, rfl, ⟨_, SqL.of (ok1.gh _ _ hp)⟩, q _ H1 G ok1.pop (jig_of r fun H e => ⟨fun i hi => ⟨_, _, SqL.of (e _ _ hp), List.getElem?_eq_getElem hi⟩, fun i x H' q => ⟨q.1, fun hi => q.2 _ (SqL.of (e _ _ hp))⟩, fun i hi => ⟨_, SqL.of (e _ _ hp), hi⟩⟩)⟩
theorem ei_tup (h : EV K te δ (.d (.tup xs))) : EI K (iTup K te) δ xs := by
  intro He Ge H τo τs σ hl ok R q
  refine h He Ge H τo τs σ hl ok _ fun v H1 ⟨G, ok1⟩ => ?_
  obtain ⟨_, e1, r1⟩ := ok1.top
  cases e1
  cases r1 with
  | tup hp r =>
    have hp := hp.t
    exact ⟨_, rfl, ⟨_, ok1.gh.t hp⟩, q _ H1 G ok1.pop (jig_of r fun H e => ⟨fun i hi => ⟨_, _, e.t hp, List.getElem?_eq_getElem hi⟩, fun i x H' q => ⟨q.1, fun hi => q.2 _ (e.t hp)⟩, fun i hi => ⟨_, e.t hp, hi⟩⟩)⟩
/-- lo, lo + 1, .. -/
def rg (lo : Int) (n : Nat) : List D := (List.range n).map fun (i : Nat) => D.int (lo + (i : Int))
def rgV (lo : Int) (n : Nat) : List V := (List.range n).map fun (i : Nat) => V.int (lo + (i : Int))
theorem rp_ints {G : Hp} {α : Type} (f : α → Int) : ∀ l : List α, RpL K G (l.map fun i => D.int (f i)) (l.map fun i => V.int (f i))
  | [] => .nil
  | _ :: r => .cons .int (rp_ints f r)
theorem jis_rng {G : Hp} {lo : Int} {n : Nat} : JIs G (Itr lo n) (rgV lo n) := fun H e =>
  ⟨fun i hi => by show i < n; simpa [rgV] using hi, fun i x H' q => ⟨q.1, fun hi => by
    have hi' : i < n := by simpa [rgV] using hi
    rw [q.2]; unfold rgV; rw [List.getElem?_map, List.getElem?_range hi']; rfl⟩, fun i hi => by show n ≤ i; simpa [rgV] using hi⟩
theorem ei_rng1 {n : Int} {tr : TA} (h : EA K tr δ [.int n]) (h1 : -(2 ^ 62) ≤ n) (h2 : n < 2 ^ 62) : EI K (iRng1 tr) δ (rg 0 n.toNat) := by
  intro He Ge H τo τs σ hl ok R q
  refine h He Ge H τo τs σ hl ok _ fun vs H1 G ok1 r1 => ?_
  cases r1 with
  | cons r1 r2 => cases r1; cases r2; exact ⟨n, rfl, h1, h2, q _ H1 G ok1 (jig_of (rp_ints _ _) jis_rng)⟩
theorem ei_rng2 {m n : Int} {tr : TA} (h : EA K tr δ [.int m, .int n]) (h1 : -(2 ^ 62) ≤ m ∧ m < 2 ^ 62 ∧ -(2 ^ 62) ≤ n ∧ n < 2 ^ 62) : EI K (iRng2 tr) δ (rg m (n - m).toNat) := by
  intro He Ge H τo τs σ hl ok R q
  refine h He Ge H τo τs σ hl ok _ fun vs H1 G ok1 r1 => ?_
  cases r1 with
  | cons r1 r2 =>
    cases r1
    cases r2 with
    | cons r2 r3 => cases r2; cases r3; exact ⟨m, n, rfl, h1, q _ H1 G ok1 (jig_of (rp_ints _ _) jis_rng)⟩
theorem ei_is {wi : TI} {ys : List D} (h : EI K wi δ xs) (e : xs = ys) : EI K wi δ ys := e ▸ h

/-! ### targets -/
end
inductive ETs (K : PySem.W.Frag) : TGs → List S → List D → List S → Prop
  | nil {δ : List S} : ETs K gNil δ [] δ
  | cons {g : TG} {gs : TGs} {δ : List S} {x : D} {xs : List D} {δ1 δ2 : List S} : ET K g δ x δ1 → ETs K gs δ1 xs δ2 → ETs K (gCons g gs) δ (x :: xs) δ2
section
variable {K : PySem.W.Frag} {δ : List S} {te ta tb : TE} {x y z : D} {s : S} {xs : List D}
theorem ets_run {gs : TGs} {δ δ' : List S} {xs : List D} (h : ETs K gs δ xs δ') : ∀ (He Ge H G : Hp) (τo : St) (τs : List S) (σ : St) (vs : List V), τo.length = τs.length → OKG K He Ge H G (τo ++ σ) (τs ++ δ) → RpL K G xs vs →
    ∀ Q : St → Hp → Prop, (∀ σ', OKG K He Ge H G (τo ++ σ') (τs ++ δ') → Q σ' H) → gs vs σ H Q := by
  induction h with
  | nil => intro He Ge H G τo τs σ vs hl ok r Q q; cases r; exact ⟨rfl, q σ ok⟩
  | cons h1 _ ih =>
    intro He Ge H G τo τs σ vs hl ok r Q q
    cases r with
    | cons r1 r2 => exact ⟨_, _, rfl, h1 He Ge H G τo τs σ _ hl ok r1 _ fun σ' ok' => ih He Ge H G τo τs σ' _ hl ok' r2 Q q⟩
theorem et_tup {n : Nat} {gs : TGs} {δ' : List S} (h : ETs K gs δ xs δ') (hn : xs.length = n) : ET K (gTup K n gs) δ (.tup xs) δ' := by
  intro He Ge H G τo τs σ v hl ok r Q q
  cases r with
  | tup hp r => exact ⟨_, _, rfl, ok.gh.t hp.t, by rw [← r.length]; exact hn, ets_run h He Ge H G τo τs σ _ hl ok r Q q⟩
theorem et_utp {n : Nat} {gs : TGs} {δ' : List S} (h : ETs K gs δ xs δ') (hn : xs.length = n) : ET K (gTup K n gs) δ (.utp xs) δ' := by
  intro He Ge H G τo τs σ v hl ok r Q q
  cases r with
  | utp hp r => exact ⟨_, _, rfl, ok.gh.t hp, by rw [← r.length]; exact hn, ets_run h He Ge H G τo τs σ _ hl ok r Q q⟩
theorem et_lst {n : Nat} {gs : TGs} {δ' : List S} (h : ETs K gs δ xs δ') (hn : xs.length = n) : ET K (gLst K n gs) δ (.lst xs) δ' := by
  intro He Ge H G τo τs σ v hl ok r Q q
  cases r with
  | lst hp r => exact ⟨_, _, rfl, SqL.of (ok.gh _ _ hp), by rw [← r.length]; exact hn, ets_run h He Ge H G τo τs σ _ hl ok r Q q⟩

/-! ### comprehensions -/
theorem wipe_get {σ : St} : ∀ (vs : List Nat) (j : Nat), (wipe σ vs)[j]? = if j ∈ vs ∧ j < σ.length then some none else σ[j]?
  | [], j => by simp [wipe]
  | v :: vs, j => by
    unfold wipe
    by_cases h : v = j
    · subst h
      by_cases hl : v < σ.length
      · rw [List.getElem?_set_self (by rw [wipe_length]; exact hl)]; simp [hl]
      · rw [List.getElem?_eq_none (by rw [List.length_set, wipe_length]; omega)]
        simp [hl]
    · rw [List.getElem?_set_ne h, wipe_get vs j]
      have : j ∈ v :: vs ↔ j ∈ vs := by simp [Ne.symm h]
      simp only [this]
theorem wipe_set {σ : St} {i : Nat} {o : Option V} {vs : List Nat} (h : i ∈ vs) : wipe (σ.set i o) vs = wipe σ vs := by
  apply List.ext_getElem?
  intro j
  rw [wipe_get, wipe_get, List.length_set]
  by_cases hj : j ∈ vs ∧ j < σ.length
  · rw [if_pos hj, if_pos hj]
  · rw [if_neg hj, if_neg hj]
    by_cases e : i = j
    · subst e
      have hl : ¬ i < σ.length := fun q => hj ⟨h, q⟩
      rw [List.getElem?_eq_none (by rw [List.length_set]; omega), List.getElem?_eq_none (by omega)]
    · rw [List.getElem?_set_ne e]
theorem wipe_wipe {σ : St} {vs : List Nat} : wipe (wipe σ vs) vs = wipe σ vs := by
  apply List.ext_getElem?
  intro j
  rw [wipe_get, wipe_length]
  by_cases hj : j ∈ vs ∧ j < σ.length
  · rw [if_pos hj, wipe_get, if_pos hj]
  · rw [if_neg hj]
/-- a target that stores in vs alone -/
def GOk (g : TG) (vs : List Nat) : Prop := ∀ v σ H Q, g v σ H Q → g v σ H fun σ' H' => wipe σ' vs = wipe σ vs ∧ Q σ' H'
theorem gok_name {i : Nat} {vs : List Nat} (h : i ∈ vs) : GOk (gName i) vs := fun v σ H Q q => ⟨wipe_set h, q⟩
def GsOk (g : TGs) (vs : List Nat) : Prop := ∀ v σ H Q, g v σ H Q → g v σ H fun σ' H' => wipe σ' vs = wipe σ vs ∧ Q σ' H'
theorem gsok_nil {vs : List Nat} : GsOk gNil vs := fun v σ H Q q => ⟨q.1, rfl, q.2⟩
theorem gsok_name {i : Nat} {gs : TGs} {vs : List Nat} (h : i ∈ vs) (h2 : GsOk gs vs) : GsOk (gCons (gName i) gs) vs := fun v σ H Q ⟨a, r, e, q⟩ => ⟨a, r, e, by
  have z := h2 r (σ.set i (some a)) H Q q
  rw [wipe_set h] at z
  exact z⟩
theorem gok_tup {n : Nat} {gs : TGs} {vs : List Nat} (h : GsOk gs vs) : GOk (gTup K n gs) vs := fun v σ H Q ⟨a, xs, e, h1, h2, q⟩ => ⟨a, xs, e, h1, h2, h xs σ H Q q⟩
/-- what a comprehension's block sees of the slots -/
def hideS : S → S
  | .own _ => .un | .okd _ => .un | .oko _ => .un | .ob _ _ _ => .un | .ot _ _ _ => .un | s => s
def hide (δ : List S) (vs : List Nat) : List S := vs.foldr (fun v δ => δ.set v .un) (δ.map hideS)
theorem hide_len (δ : List S) : ∀ vs : List Nat, (hide δ vs).length = δ.length
  | [] => by simp [hide]
  | v :: vs => by show ((hide δ vs).set v .un).length = _; rw [List.length_set, hide_len δ vs]
theorem hide_get (δ : List S) : ∀ (vs : List Nat) (j : Nat) (s : S), (hide δ vs)[j]? = some s → (s = .un ∧ j < δ.length) ∨ (j ∉ vs ∧ owned s = false ∧ δ[j]? = some s)
  | [], j, s, h => by
    simp only [hide, List.foldr_nil, List.getElem?_map, Option.map_eq_some_iff] at h
    obtain ⟨t, e, rfl⟩ := h
    have hl : j < δ.length := (List.getElem?_eq_some_iff.mp e).1
    cases t with
    | un => exact .inl ⟨rfl, hl⟩
    | d x => exact .inr ⟨by simp, rfl, e⟩
    | own xs => exact .inl ⟨rfl, hl⟩
    | ot A xs B => exact .inl ⟨rfl, hl⟩
    | okd xs => exact .inl ⟨rfl, hl⟩
    | oko xs => exact .inl ⟨rfl, hl⟩
    | ob q C fs => exact .inl ⟨rfl, hl⟩
  | v :: vs, j, s, h => by
    have h' : ((hide δ vs).set v .un)[j]? = some s := h
    by_cases e : v = j
    · subst e
      have hl : v < (hide δ vs).length := by
        have := (List.getElem?_eq_some_iff.mp h').1
        rwa [List.length_set] at this
      rw [List.getElem?_set_self hl] at h'
      cases h'
      exact .inl ⟨rfl, by rwa [hide_len] at hl⟩
    · rw [List.getElem?_set_ne e] at h'
      rcases hide_get δ vs j s h' with z | ⟨z1, z2⟩
      · exact .inl z
      · exact .inr ⟨by simp [z1, Ne.symm e], z2⟩
/-- the block's own view stands beside the def's -/
theorem OKG.block {He Ge H G : Hp} {τo : St} {τs : List S} {σ : St} {vs : List Nat} (ok : OKG K He Ge H G (τo ++ σ) (τs ++ δ)) (hl : τo.length = τs.length) : OKG K He Ge H G ((τo ++ σ) ++ wipe σ vs) ((τs ++ (δ ++ List.replicate (σ.length - δ.length) .un)) ++ hide δ vs) := by
  have hd : δ.length ≤ σ.length := by have := ok.len; simp only [List.length_append] at this; omega
  have hL : (τo ++ σ).length = (τs ++ (δ ++ List.replicate (σ.length - δ.length) S.un)).length := by simp only [List.length_append, List.length_replicate]; omega
  have lo : ∀ (i : Nat) (s : S), i < (τo ++ σ).length → ((τs ++ (δ ++ List.replicate (σ.length - δ.length) S.un)) ++ hide δ vs)[i]? = some s → (τs ++ δ)[i]? = some s ∨ s = .un := fun i s hi h => by
    rw [List.getElem?_append_left (by rw [← hL]; exact hi), ← List.append_assoc] at h
    rcases Nat.lt_or_ge i (τs ++ δ).length with q | q
    · rw [List.getElem?_append_left q] at h; exact .inl h
    · rw [List.getElem?_append_right q] at h
      exact .inr (by
        have := List.mem_of_getElem? h
        exact List.eq_of_mem_replicate this)
  have hi : ∀ (i : Nat) (s : S), (τo ++ σ).length ≤ i → ((τs ++ (δ ++ List.replicate (σ.length - δ.length) S.un)) ++ hide δ vs)[i]? = some s → owned s = false ∧ ∃ o, ((τo ++ σ) ++ wipe σ vs)[i]? = some o ∧ SlotOk K He G H s o := fun i s q h => by
    rw [List.getElem?_append_right (by rw [← hL]; exact q), ← hL] at h
    rw [List.getElem?_append_right q]
    rcases hide_get δ vs _ s h with ⟨rfl, z⟩ | ⟨z1, z2, z3⟩
    · refine ⟨rfl, (wipe σ vs)[i - (τo ++ σ).length]'(by rw [wipe_length]; omega), List.getElem?_eq_getElem _, trivial⟩
    · obtain ⟨o, eo, k⟩ := ok.sl (τs.length + (i - (τo ++ σ).length)) s ((len_append (c := σ) (d := δ) hl _).1.trans z3)
      rw [(len_append (c := σ) (d := δ) hl _).2] at eo
      refine ⟨z2, o, ?_, k⟩
      rw [wipe_get, if_neg (fun q => z1 q.1)]; exact eo
  refine ⟨ok.ge, ok.gh, ok.he, ok.nc, fun i s h => ?_, fun i j s t p hij hi' hj o1 o2 e1 e2 => ?_⟩
  · rcases Nat.lt_or_ge i (τo ++ σ).length with q | q
    · rcases lo i s q h with z | rfl
      · obtain ⟨o, eo, k⟩ := ok.sl i s z
        exact ⟨o, by rw [List.getElem?_append_left q]; exact eo, k⟩
      · exact ⟨(τo ++ σ)[i], by rw [List.getElem?_append_left q]; exact List.getElem?_eq_getElem q, trivial⟩
    · exact (hi i s q h).2
  · rcases Nat.lt_or_ge i (τo ++ σ).length with q | q
    · rcases Nat.lt_or_ge j (τo ++ σ).length with q2 | q2
      · rw [List.getElem?_append_left q] at e1
        rw [List.getElem?_append_left q2] at e2
        rcases lo i s q hi' with z | rfl
        · rcases lo j t q2 hj with z2 | rfl
          · exact ok.ne i j s t p hij z z2 o1 o2 e1 e2
          · cases o2
        · cases o1
      · rw [(hi j t q2 hj).1] at o2; cases o2
    · rw [(hi i s q hi').1] at o1; cases o1
/-- back from the block -/
theorem OKG.unblock {He Ge H G : Hp} {α σ2 : St} {τs : List S} {n : Nat} {δ2 : List S} (ok : OKG K He Ge H G (α ++ σ2) ((τs ++ (δ ++ List.replicate n .un)) ++ δ2)) (hl : α.length = (τs ++ (δ ++ List.replicate n S.un)).length) : OKG K He Ge H G α (τs ++ δ) := by
  have lt : ∀ (i : Nat) (s : S), (τs ++ δ)[i]? = some s → i < α.length ∧ ((τs ++ (δ ++ List.replicate n S.un)) ++ δ2)[i]? = some s := fun i s h => by
    have q := (List.getElem?_eq_some_iff.mp h).1
    have q2 : i < (τs ++ (δ ++ List.replicate n S.un)).length := by simp only [List.length_append] at q ⊢; omega
    refine ⟨by rw [hl]; exact q2, ?_⟩
    rw [List.getElem?_append_left q2, ← List.append_assoc, List.getElem?_append_left q]; exact h
  refine ⟨ok.ge, ok.gh, ok.he, ok.nc, fun i s h => ?_, fun i j s t p hij hi hj o1 o2 e1 e2 => ?_⟩
  · obtain ⟨q, h2⟩ := lt i s h
    obtain ⟨o, eo, k⟩ := ok.sl i s h2
    exact ⟨o, by rwa [List.getElem?_append_left q] at eo, k⟩
  · obtain ⟨q1, h1⟩ := lt i s hi
    obtain ⟨q2, h2⟩ := lt j t hj
    exact ok.ne i j s t p hij h1 h2 o1 o2 (by rw [List.getElem?_append_left q1]; exact e1) (by rw [List.getElem?_append_left q2]; exact e2)
/-- the ground moved up: what is data now stays data -/
theorem OKG.ground {He Ge H G : Hp} {σ : St} {δ : List S} (ok : OKG K He Ge H G σ δ) : OKG K He G H G σ δ := ⟨.refl G, ok.gh, ok.he, ⟨fun _ _ z => z, ok.nc.t0.mono (fun _ _ e => e) ok.ge, ok.nc.tb⟩, ok.sl, ok.ne⟩
theorem OKG.unground {He Ge H H' G G' : Hp} {σ σ' : St} {δ δ' : List S} (ok : OKG K He Ge H G σ δ) (ok' : OKG K He G H' G' σ' δ') : OKG K He Ge H' G' σ' δ' := ⟨ok.ge.trans ok'.ge, ok'.gh, ok'.he, ⟨fun b h1 h2 => ok'.nc b h1 (ok.nc b h1 h2), ok.nc.t0, ok'.nc.tb⟩, ok'.sl, ok'.ne⟩

theorem ev_lc {α : Type} {ys : List α} {h : α → D} {p : α → Bool} {f : α → D} {wi : TI} {g : TG} {tt : TT} {vs : List Nat} (hi : EI K wi δ (ys.map h)) (hg : GOk g vs) (hz : ys.length ≤ sizeLine)
    (k : ∀ y ∈ ys, ∃ δ2, ET K g (hide δ vs) (h y) δ2 ∧ EB K tt δ2 (p y) ∧ (p y = true → EV K te δ2 (.d (f y)))) : EV K (tLc wi g tt te vs) δ (.own ((ys.filter p).map f)) := by
  intro He Ge H τo τs σ hl ok Q q
  refine hi He Ge H τo τs σ hl ok _ fun J H1 G ok1 jis => ?_
  intro Dp hD
  have okD := (ok1.newOwn (xs := []) (vs := []) hD .nil).ground
  have lus : (ys.map h).length = ys.length := List.length_map ..
  -- behind i turns: the list at Dp is what was made of the first i
  refine ⟨fun i m H2 => i + m = (ys.map h).length ∧ OK K He G H2 (some (.ref Dp) :: (τo ++ σ)) (.own (((ys.take i).filter p).map f) :: (τs ++ δ)), ⟨(ys.map h).length, by omega, G, okD⟩, fun i m H2 ⟨em, G2, ok2⟩ => ?_⟩
  obtain ⟨j1, j2, j3⟩ := jis H2 G2 ok2.ge ok2.gh
  rcases Nat.lt_or_ge i (ys.map h).length with hlt | hge
  · have hy : i < ys.length := by omega
    have ey : ys[i]? = some ys[i] := List.getElem?_eq_getElem hy
    have ex : (ys.map h)[i]? = some (h ys[i]) := by rw [List.getElem?_map, ey]; rfl
    have tk : ys.take (i + 1) = ys.take i ++ [ys[i]] := by rw [List.take_add_one, ey]; rfl
    refine .inr ⟨j1 i hlt, fun H3 => OK K He G H3 (some (.ref Dp) :: (τo ++ σ)) (.own (((ys.take (i + 1)).filter p).map f) :: (τs ++ δ)), fun H3 k3 => ⟨m - 1, by omega, by omega, k3⟩, fun x H3 hx => ?_⟩
    obtain ⟨G3, y, g1, g2, g3, g4, ey2, rv⟩ := j2 i x H3 hx hlt
    rw [ex] at ey2
    cases ey2
    replace ok2 := ok2.grow g1 g2 g3 (g4.ok ok2.nc.tb)
    obtain ⟨δ2, kt, kb, ke⟩ := k ys[i] (List.getElem_mem hy)
    have hd : δ.length ≤ σ.length := by have := ok1.len; simp only [List.length_append] at this; omega
    have hL : ((some (V.ref Dp) :: τo) ++ σ).length = ((S.own (((ys.take i).filter p).map f) :: τs) ++ (δ ++ List.replicate (σ.length - δ.length) S.un)).length := by
      simp only [List.length_append, List.length_cons, List.length_replicate]; omega
    have okB := OKG.block (vs := vs) (τo := some (.ref Dp) :: τo) (τs := .own (((ys.take i).filter p).map f) :: τs) (σ := σ) (δ := δ) ok2 (by simp [hl])
    have z := hg x (wipe σ vs) H3 _ (kt He G H3 G3 _ _ (wipe σ vs) x hL okB rv (fun σ2 H4 => tt σ2 H4 fun b H5 => if b = true then te σ2 H5 fun y H6 => ∃ acc, H6 Dp = some (.lst acc) ∧ acc.length < sizeLine ∧ OK K He G (upd H6 Dp (.lst (acc ++ [y]))) (some (.ref Dp) :: (τo ++ σ)) (.own (((ys.take (i + 1)).filter p).map f) :: (τs ++ δ)) else OK K He G H5 (some (.ref Dp) :: (τo ++ σ)) (.own (((ys.take (i + 1)).filter p).map f) :: (τs ++ δ))) fun σ2 ok3 => ?_)
    · rw [wipe_wipe] at z; exact z
    · refine kb He G H3 _ _ σ2 hL ⟨G3, ok3⟩ _ fun H4 ok4 => ?_
      cases hp : p ys[i] with
      | false =>
        refine iteF ?_
        obtain ⟨G4, ok4⟩ := ok4
        have e : ((ys.take (i + 1)).filter p).map f = ((ys.take i).filter p).map f := by rw [tk, List.filter_append]; simp [hp]
        rw [e]
        exact ⟨G4, ok4.unblock hL⟩
      | true =>
        refine iteT (ke hp He G H4 _ _ σ2 hL ok4 _ fun w H5 ⟨G5, ok5⟩ => ?_)
        have ok6 := OKG.unblock (α := some w :: ((some (.ref Dp) :: τo) ++ σ)) (σ2 := σ2) (τs := .d (f ys[i]) :: (S.own (((ys.take i).filter p).map f) :: τs)) (n := σ.length - δ.length) (δ2 := δ2) ok5 (by simp only [List.length_cons]; exact congrArg (· + 1) (by simpa using hL))
        obtain ⟨o, eo, pp, acc, e1, _, _, h3, r3⟩ := ok6.sl 1 _ rfl
        cases eo; cases e1
        obtain ⟨w', e2, rw_⟩ := ok6.top
        cases e2
        have hacc : acc.length ≤ i := by
          rw [← r3.length, List.length_map]
          exact Nat.le_trans (List.length_filter_le _ _) (by rw [List.length_take]; omega)
        refine ⟨acc, h3, by omega, G5, ?_⟩
        have e : ((ys.take (i + 1)).filter p).map f = ((ys.take i).filter p).map f ++ [f ys[i]] := by rw [tk, List.filter_append]; simp [hp]
        rw [e]
        exact (OKG.change (i := 1) ok6 rfl rfl h3 (r3.append (.cons rw_ .nil))).pop
  · refine .inl ⟨j3 i hge, ?_⟩
    have e : ys.take i = ys := List.take_of_length_le (by omega)
    rw [e] at ok2
    exact q _ H2 ⟨G2, ok1.unground ok2⟩
/-! ### statements -/
variable {E : WX} {N B C : List S → Prop} {R : S → List S → Prop} {X : List S → Addr → List (Str × D) → Prop} {t u : TS} {c : TT} {b : Bool}
theorem sd_next (h : N δ) : SD K E tNext δ N R B C X := fun He Ge H σ Dn ok n r bk ct xx => n δ σ H ok h
theorem sd_break (h : B δ) : SD K E tBreak δ N R B C X := fun He Ge H σ Dn ok n r bk ct xx => bk δ σ H ok h
theorem sd_cont (h : C δ) : SD K E tCont δ N R B C X := fun He Ge H σ Dn ok n r bk ct xx => ct δ σ H ok h
theorem sd_seq (h : SD K E t δ (fun δ' => SD K E u δ' N R B C X) R B C X) : SD K E (tSeq t u) δ N R B C X := fun He Ge H σ Dn ok n r bk ct xx =>
  h He Ge H σ { Dn with nx := u Dn } ok (fun δ' σ' H' ok' k => k He Ge H' σ' Dn ok' n r bk ct xx) r bk ct xx
theorem ev0 {te : TE} (h : EV K te δ s) {He Ge H : Hp} {σ : St} (ok : OK K He Ge H σ δ) {Q : VK} (q : ∀ v H', OK K He Ge H' (some v :: σ) (s :: δ) → Q v H') : te σ H Q := h He Ge H [] [] σ rfl ok Q q
theorem eb0 {c : TT} (h : EB K c δ b) {He Ge H : Hp} {σ : St} (ok : OK K He Ge H σ δ) {Q : Bool → Hp → Prop} (q : ∀ H', OK K He Ge H' σ δ → Q b H') : c σ H Q := h He Ge H [] [] σ rfl ok Q q
theorem sd_set {i : Nat} (h : EV K te δ s) (hi : i < δ.length) (n : N (δ.set i s)) : SD K E (tAsg te (gName i)) δ N R B C X := fun He Ge H σ Dn ok nx r bk ct xx =>
  ev0 h ok fun v H' ⟨G', ok'⟩ => nx _ _ _ ⟨G', ok'.store hi⟩ n
theorem sd_asg {g : TG} {δ' : List S} (h : EV K te δ (.d x)) (hg : ET K g δ x δ') (n : N δ') : SD K E (tAsg te g) δ N R B C X := fun He Ge H σ Dn ok nx r bk ct xx =>
  ev0 h ok fun v H' ⟨G', ok'⟩ => by
    obtain ⟨_, e, rv⟩ := ok'.top
    cases e
    exact hg He Ge H' G' [] [] σ v rfl ok'.pop rv Dn.nx fun σ' ok2 => nx _ _ _ ⟨G', ok2⟩ n
theorem sd_if (h : EB K c δ b) (h1 : b = true → SD K E t δ N R B C X) (h2 : b = false → SD K E u δ N R B C X) : SD K E (tIfS c t u) δ N R B C X := fun He Ge H σ Dn ok nx r bk ct xx =>
  eb0 h ok fun H' ok' => by
    cases b with
    | true => exact iteT (h1 rfl He Ge H' σ Dn ok' nx r bk ct xx)
    | false => exact iteF (h2 rfl He Ge H' σ Dn ok' nx r bk ct xx)
theorem sd_ret (h : EV K te δ s) (hs : notOt s = true) (r : R s δ) : SD K E (tRet te) δ N R B C X := fun He Ge H σ Dn ok nx rt bk ct xx => ev0 h ok fun v H' ⟨G', ok'⟩ => rt v s σ δ H' ⟨G', ok', oti_of hs⟩ r
theorem sd_retN (r : R (.d .non) δ) : SD K E tRetN δ N R B C X := fun He Ge H σ Dn ⟨G, ok⟩ nx rt bk ct xx => rt .non _ σ δ H ⟨G, ok.pushD .non, trivial⟩ r
theorem sd_drop (h : EV K te δ s) (n : N δ) : SD K E (tDrop te) δ N R B C X := fun He Ge H σ Dn ok nx r bk ct xx => ev0 h ok fun v H' ⟨G', ok'⟩ => nx _ _ _ ⟨G', ok'.pop⟩ n
theorem sd_never : SD K E tNever δ N R B C X → SD K E tNever δ N R B C X := id
/-- weaker slots first -/
theorem sd_weak {δ' : List S} (w : weak δ δ') (h : SD K E t δ' N R B C X) : SD K E t δ N R B C X := fun He Ge H σ Dn ⟨G, ok⟩ nx r bk ct xx => h He Ge H σ Dn ⟨G, ok.weak w⟩ nx r bk ct xx
theorem sd_mono {N' B' C' : List S → Prop} {R' : S → List S → Prop} {X' : List S → Addr → List (Str × D) → Prop} (h : SD K E t δ N R B C X) (n : ∀ δ, N δ → N' δ) (r : ∀ s δ, R s δ → R' s δ) (b : ∀ δ, B δ → B' δ) (c : ∀ δ, C δ → C' δ) (x : ∀ δ a fs, X δ a fs → X' δ a fs) : SD K E t δ N' R' B' C' X' := fun He Ge H σ Dn ok nx rt bk ct xx =>
  h He Ge H σ Dn ok (fun δ' σ' H' k p => nx δ' σ' H' k (n _ p)) (fun v s σ' δ' H' k p => rt v s σ' δ' H' k (r _ _ p)) (fun δ' σ' H' k p => bk δ' σ' H' k (b _ p)) (fun δ' σ' H' k p => ct δ' σ' H' k (c _ p))
    (fun c fs cls d G' σ' δ' H' k k2 p => xx c fs cls d G' σ' δ' H' k k2 (x _ _ _ p))
/-- xs.append(e), xs a list of one's own in slot i -/
theorem sd_append {i : Nat} (hi : δ[i]? = some (.own xs)) (h : EV K te δ (.d x)) (hz : xs.length < sizeLine) (n : N (δ.set i (.own (xs ++ [x])))) : SD K E (tDrop (tBM K "list" rAppend (tVar i) (tCons te tNil))) δ N R B C X := by
  intro He Ge H σ Dn ok nx r bk ct xx
  obtain ⟨G, okk⟩ := id ok
  obtain ⟨o, eo, p, vs, rfl, h1, h2, h3, rv⟩ := okk.sl i _ hi
  refine ⟨_, eo, .inl ⟨rfl, _, SqL.of h3⟩, ?_⟩
  refine ev0 h ok fun v H' ⟨G', ok'⟩ => ?_
  obtain ⟨o2, eo2, p2, vs2, e2, k1, k2, k3, rv2⟩ := ok'.sl (i + 1) (.own xs) (by simpa using hi)
  have e3 : o2 = some (.ref p) := by
    have : σ[i]? = some o2 := by simpa using eo2
    rw [eo] at this
    exact (Option.some.inj this).symm
  subst e3
  cases e2
  obtain ⟨w, e4, rw_⟩ := ok'.top
  cases e4
  refine ⟨p, vs2, v, rfl, rfl, k3, by rw [← rv2.length]; exact hz, ?_⟩
  exact nx _ _ _ ⟨G', OKG.change ok'.pop hi eo k3 (rv2.append (.cons rw_ .nil))⟩ n
theorem sd_for {α : Type} {ys : List α} {h : α → D} {wi : TI} {g : TG} {tb : TS} (hi : EI K wi δ (ys.map h)) (I : Nat → List S) (h0 : weak δ (I 0))
    (k : ∀ i y, ys[i]? = some y → ∃ δ2, ET K g (I i) (h y) δ2 ∧ SD K E tb δ2 (fun δ' => weak δ' (I (i + 1))) R N (fun δ' => weak δ' (I (i + 1))) X) (hd : N (I ys.length)) : SD K E (tFor wi g tb) δ N R B C X := by
  intro He Ge H σ Dn ok nx r bk ct xx
  refine hi He Ge H [] [] σ rfl ok _ fun J H1 G ok1 jis => ?_
  have lus : (ys.map h).length = ys.length := List.length_map ..
  refine ⟨fun i m σ2 H2 => i + m = (ys.map h).length ∧ OK K He G H2 σ2 (I i), ⟨(ys.map h).length, by omega, G, (OKG.ground ok1).weak h0⟩, fun i m σ2 H2 ⟨em, G2, ok2⟩ => ?_⟩
  obtain ⟨j1, j2, j3⟩ := jis H2 G2 ok2.ge ok2.gh
  rcases Nat.lt_or_ge i (ys.map h).length with hlt | hge
  · have hy : i < ys.length := by omega
    have ey : ys[i]? = some ys[i] := List.getElem?_eq_getElem hy
    have ex : (ys.map h)[i]? = some (h ys[i]) := by rw [List.getElem?_map, ey]; rfl
    refine .inr ⟨j1 i hlt, fun σ3 H3 => OK K He G H3 σ3 (I (i + 1)), fun σ3 H3 k3 => ⟨m - 1, by omega, by omega, k3⟩, fun x H3 hx => ?_⟩
    obtain ⟨G3, y, g1, g2, g3, g4, ey2, rv⟩ := j2 i x H3 hx hlt
    rw [ex] at ey2
    cases ey2
    replace ok2 := ok2.grow g1 g2 g3 (g4.ok ok2.nc.tb)
    obtain ⟨δ2, kt, kb⟩ := k i ys[i] ey
    refine kt He G H3 G3 [] [] σ2 x rfl ok2 rv _ fun σ3 ok3 => ?_
    refine kb He G H3 σ3 _ ⟨G3, ok3⟩ ?_ ?_ ?_ ?_ ?_
    · exact fun δ' σ' H' ⟨G', k'⟩ w => ⟨G', k'.weak w⟩
    · exact fun v s σ' δ' H' ⟨G', k', ot⟩ w => r v s σ' δ' H' ⟨G', ok1.unground k', ot⟩ w
    · exact fun δ' σ' H' ⟨G', k'⟩ w => nx δ' σ' H' ⟨G', ok1.unground k'⟩ w
    · exact fun δ' σ' H' ⟨G', k'⟩ w => ⟨G', k'.weak w⟩
    · exact fun c fs cls d G' σ' δ' H' k' k2 w => xx c fs cls d G' σ' δ' H' (ok1.unground k') k2 w
  · have e : i = ys.length := by omega
    subst e
    exact .inl ⟨j3 _ hge, nx _ _ _ ⟨G2, ok1.unground ok2⟩ hd⟩
theorem sd_while {α : Type} {tb : TS} (I : α → List S) (W : α → Prop) (μ : α → Nat) (a0 : α) (w0 : W a0) (h0 : weak δ (I a0))
    (k : ∀ a, W a → ∃ b, EB K c (I a) b ∧ (b = true → SD K E tb (I a) (fun δ' => ∃ a', W a' ∧ μ a' < μ a ∧ weak δ' (I a')) R N (fun δ' => ∃ a', W a' ∧ μ a' < μ a ∧ weak δ' (I a')) X) ∧ (b = false → N (I a))) : SD K E (tWhile c tb) δ N R B C X := by
  intro He Ge H σ Dn ⟨G, ok⟩ nx r bk ct xx
  refine ⟨fun m σ2 H2 => ∃ a, W a ∧ m = μ a ∧ OK K He Ge H2 σ2 (I a), ⟨μ a0, a0, w0, rfl, G, ok.weak h0⟩, fun m σ2 H2 ⟨a, wa, em, ok2⟩ => ?_⟩
  obtain ⟨b, kb, kt, kf⟩ := k a wa
  refine eb0 kb ok2 fun H3 ok3 => ?_
  cases b with
  | false => exact iteF (nx _ _ _ ok3 (kf rfl))
  | true =>
    refine iteT ⟨fun σ' H' => ∃ a', W a' ∧ μ a' < μ a ∧ OK K He Ge H' σ' (I a'), fun σ' H' ⟨a', w', l, o⟩ => ⟨μ a', by omega, a', w', rfl, o⟩, ?_⟩
    refine kt rfl He Ge H3 σ2 _ ok3 ?_ r nx ?_ xx
    · exact fun δ' σ' H' ⟨G', k'⟩ ⟨a', w', l, w⟩ => ⟨a', w', l, G', k'.weak w⟩
    · exact fun δ' σ' H' ⟨G', k'⟩ ⟨a', w', l, w⟩ => ⟨a', w', l, G', k'.weak w⟩
end
/-! ### a def -/
def Fits (out : Out) (s : S) : Prop := out = .ret s ∨ ∃ xs, s = .own xs ∧ out = .ret (.d (.lst xs))
/-- the whole of a def's body -/
def SDef (K : PySem.W.Frag) (E : WX) (t : TS) (δ : List S) (out : Out) : Prop := SD K E t δ (fun _ => out = .ret (.d .non)) (fun s _ => Fits out s) NoS NoS (fun _ c fs => out = .exc c fs)
def slots (n : Nat) (xs : List D) : List S := xs.map .d ++ List.replicate (n - xs.length) .un
theorem ok_start {K : PySem.W.Frag} {G H : Hp} {N : List Str} {xs : List D} {vs : List V} (e : Ex G H ∧ TabOk K H G) (r : RpL K G xs vs) : OK K H G H (L2.start N vs) (slots N.length xs) := by
  refine ⟨G, .refl G, e.1, .refl H, ⟨fun _ _ z => z, e.2, e.2⟩, fun i s h => ?_, fun i j s t p hij hi hj o1 => ?_⟩
  · unfold slots at h
    unfold L2.start
    rcases Nat.lt_or_ge i xs.length with q | q
    · rw [List.getElem?_append_left (by simpa using q), List.getElem?_map] at h
      obtain ⟨x, ex, rfl⟩ := Option.map_eq_some_iff.mp h
      obtain ⟨v, ev, rv⟩ := r.get ex
      refine ⟨some v, ?_, v, rfl, rv⟩
      rw [List.getElem?_append_left (by rw [List.length_map, ← r.length]; exact q), List.getElem?_map, ev]; rfl
    · rw [List.getElem?_append_right (by simpa using q)] at h
      have hs : s = .un := List.eq_of_mem_replicate (List.mem_of_getElem? h)
      have hl := (List.getElem?_eq_some_iff.mp h).1
      rw [List.length_replicate, List.length_map] at hl
      subst hs
      refine ⟨none, ?_, trivial⟩
      rw [List.getElem?_append_right (by rw [List.length_map, ← r.length]; exact q), List.getElem?_replicate, if_pos (by rw [List.length_map, ← r.length]; exact hl)]
  · have : ∀ s ∈ slots N.length xs, owned s = false := fun s hs => by
      rcases List.mem_append.mp hs with z | z
      · obtain ⟨x, _, rfl⟩ := List.mem_map.mp z; rfl
      · rw [List.eq_of_mem_replicate z]; rfl
    rw [this s (List.mem_of_getElem? hi)] at o1; cases o1
theorem body_run {K : PySem.W.Frag} {R : List D → Out → Prop} {N : List Str} {vs : List V} {H : Hp} {Q : VK} {E : XK} {t : TS} (h : spD K R vs H Q E) (k : ∀ xs out, R xs out → SDef K (fun cls d _ H => E cls d H) t (slots N.length xs) out) : t { nx := fun _ H' => Q .non H', rt := Q } (L2.start N vs) H := by
  obtain ⟨G, xs, out, e, r, hr, q1, q2⟩ := h
  refine k xs out hr H G H _ _ (ok_start e r) (fun δ' σ' H' ⟨G', ok⟩ z => ?_) (fun v s σ' δ' H' ⟨G', ok, ot⟩ z => ?_) (fun _ _ _ _ z => z.elim) (fun _ _ _ _ z => z.elim) fun c fs cls d G' σ' δ' H' ok x z => q2 c fs cls d G' H' z ok.ge ok.gh ok.he ok.nc x
  · exact q1 .non _ G' H' z ok.ge ok.gh ok.he ok.nc ⟨.non, rfl, .non⟩ trivial
  · rcases z with z | ⟨ys, rfl, z⟩
    · exact q1 v s G' H' z ok.ge ok.gh ok.he ok.nc ok.top ot
    · obtain ⟨G2, ok2⟩ := ok.freeze
      exact q1 v _ G2 H' z ok2.ge ok2.gh ok2.he ok2.nc ok2.top trivial
section
open PySem.Spec PyProof.Rows
variable {P : Program} {w : World} {K : PySem.W.Frag} {mg : Str → Option Value} {base : Heap}
theorem spD_len {R : List D → Out → Prop} {n : Nat} (h : ∀ xs out, R xs out → xs.length = n) : ∀ vs H Q E, spD K R vs H Q E → vs.length = n := fun vs H Q E ⟨G, xs, out, e, r, hr, _⟩ => by rw [← r.length]; exact h xs out hr
theorem ok_def {x qual : Str} {st : Stmt} {f : Addr} {fd : FuncData} {N ps : List Str} {k : Nat} {R : List D → Out → Prop} {t : TS} (F : Fun K x qual st f fd) (S : FnScope N ps (defScope st)) (hl : ∀ xs out, R xs out → xs.length = ps.length)
    (hd : ∀ (cdv : Value) (A : Around) (outer : List Env) (s : Shared) (H : Hp) (E : XK), Room k (A.deeper (envOfC qual (defScope st) s.heap.objs.size f cdv)) → PSs (cxOf CX0 P w K mg base N qual (defScope st) f cdv A outer s H E).nox (defBody st) t)
    (hs : ∀ (E : WX) xs out, R xs out → SDef K E t (slots N.length xs) out) : FnOk P w K mg base CX0 (k + 1) f fd ps (spD K R) :=
  F.ok S (spD_len hl) fun cdv A outer s H vs Q E hr h => ⟨t, hd cdv A outer s H E hr, body_run h (hs _)⟩
end
end Far
/-! Operators told over data. -/
namespace Far
open PySem L2
section
variable {K : PySem.W.Frag}
/-! ### scalars out -/
theorem done {He Ge H G : Hp} {σ : St} {δ : List S} {x : D} {v : V} (ok : OKG K He Ge H G σ δ) (r : Rp K G x v) : OK K He Ge H (some v :: σ) (.d x :: δ) := ⟨G, ok.pushD r⟩
theorem doneT {He Ge H G : Hp} {σ : St} {δ : List S} {xs : List D} {vs : List V} {p : Addr} {o : Obj} (ok : OKG K He Ge H G σ δ) (hp : H p = none) (hc : o.cls = .type "tuple") (hd : o.dict = none) (r : RpL K G xs vs) : OK K He Ge (upd H p (.frz o (.tup vs))) (some (.ref p) :: σ) (.d (.tup xs) :: δ) :=
  ⟨_, (ok.newG hp).pushD (.tup (.inl ⟨o, upd_same, hc, hd⟩) (r.mono (.new (ok.gh.none hp))))⟩
theorem doneL {He Ge H G : Hp} {σ : St} {δ : List S} {xs : List D} {vs : List V} {p : Addr} (ok : OKG K He Ge H G σ δ) (hp : H p = none) (r : RpL K G xs vs) : OK K He Ge (upd H p (.lst vs)) (some (.ref p) :: σ) (.own xs :: δ) :=
  ⟨G, ok.newOwn hp r⟩
theorem rv_I0 {g : Int → Int → Int} {i j : Int} : RV2 K (rI0 fun i j => .int (g i j)) (.int i) (.int j) (.d (.int (g i j))) := by
  intro He Ge H G σ δ v u ok rv ru Q q
  cases rv; cases ru
  exact ⟨i, j, rfl, rfl, q _ _ (done ok .int)⟩
theorem rv_B0 {g : Int → Int → Bool} {i j : Int} : RV2 K (rI0 fun i j => .bl (g i j)) (.int i) (.int j) (.d (.bl (g i j))) := by
  intro He Ge H G σ δ v u ok rv ru Q q
  cases rv; cases ru
  exact ⟨i, j, rfl, rfl, q _ _ (done ok .bl)⟩
theorem rv_I {C : Int → Int → Prop} {g : Int → Int → Int} {i j : Int} (h : C i j) : RV2 K (rI C fun i j => .int (g i j)) (.int i) (.int j) (.d (.int (g i j))) := by
  intro He Ge H G σ δ v u ok rv ru Q q
  cases rv; cases ru
  exact ⟨i, j, rfl, rfl, h, q _ _ (done ok .int)⟩
theorem rv1_U {g : Int → Int} {i : Int} : RV1 K (rU fun i => .int (g i)) (.int i) (.d (.int (g i))) := by
  intro He Ge H G σ δ v ok rv Q q
  cases rv
  exact ⟨i, rfl, q _ _ (done ok .int)⟩
theorem RV2.inl {r r' : R2} {x y : D} {s : S} (h : RV2 K r x y s) : RV2 K (fun a b H Q => r a b H Q ∨ r' a b H Q) x y s := fun He Ge H G σ δ v u ok rv ru Q q => .inl (h He Ge H G σ δ v u ok rv ru Q q)
theorem RV2.inr {r r' : R2} {x y : D} {s : S} (h : RV2 K r' x y s) : RV2 K (fun a b H Q => r a b H Q ∨ r' a b H Q) x y s := fun He Ge H G σ δ v u ok rv ru Q q => .inr (h He Ge H G σ δ v u ok rv ru Q q)
theorem RVN.inl {r r' : List V → Hp → VK → Prop} {xs : List D} {s : S} (h : RVN K r xs s) : RVN K (fun a H Q => r a H Q ∨ r' a H Q) xs s := fun He Ge H G σ δ v ok rv Q q => .inl (h He Ge H G σ δ v ok rv Q q)
theorem RVN.inr {r r' : List V → Hp → VK → Prop} {xs : List D} {s : S} (h : RVN K r' xs s) : RVN K (fun a H Q => r a H Q ∨ r' a H Q) xs s := fun He Ge H G σ δ v ok rv Q q => .inr (h He Ge H G σ δ v ok rv Q q)
/-! ### + -/
def rAddI : R2 := rI0 fun i j => .int (i + j)
def rAddT : R2 := fun x y H Q => ∃ i j, x = .str i ∧ y = .str j ∧ i.length + j.length ≤ sizeLine ∧ Q (.str (i ++ j)) H
/-- t + u: with an empty one the other itself -/
def rCatP (K : PySem.W.Frag) : R2 := fun x y H Q => ∃ a b xs ys, x = .ref a ∧ y = .ref b ∧ SqT K H a xs ∧ SqT K H b ys ∧ xs.length + ys.length ≤ sizeLine ∧
  (xs = [] → Q (.ref b) H) ∧ (xs ≠ [] → ys = [] → Q (.ref a) H) ∧ (xs ≠ [] → ys ≠ [] → NewT H (xs ++ ys) Q)
section
open PySem.Spec PyProof.Rows
theorem op_catP {X : Cx} : OpR X (binaryOp .Add) (rCatP X.K) := by
  intro pins s σ H x y v u Q I rx ry h
  obtain ⟨a, b, xs, ys, rfl, rfl, ha, hb, hz, q0, q1, q2⟩ := h
  cases rx
  cases ry
  obtain ⟨its, r1, p1, _⟩ := I.tuple ha
  obtain ⟨its2, r2, p2, _⟩ := I.tuple hb
  by_cases hx : xs = []
  · subst hx
    cases r1
    exact cat_tup0 p1 p2 ⟨.ref b, H, I, rfl, q0 rfl⟩
  · refine HT.cat_tup p1 p2 (fun z => hx (r1.nil_iff.mp z)) (fun z => ⟨.ref a, H, I, rfl, q1 hx (r2.nil_iff.mp z)⟩) (fun z => ?_) (by rw [← r1.length, ← r2.length]; exact hz)
    refine ⟨.ref s.heap.objs.size, _, I.laid (t' := s.toks) (o := .frz _ (.tup (xs ++ ys))) (fun b ob q => Heap.get?_push_of_some _ q) (Nat.le_refl _) ⟨Heap.get?_push_size _ rfl, by rw [List.length_append]; exact hz, _, r1.append r2, IsTup.new _ _⟩, rfl, ?_⟩
    exact q2 hx (fun w => z (r2.nil_iff.mpr w)) _ _ (I.hok.fresh (Nat.le_refl _)) rfl rfl
end
def rAddU (K : PySem.W.Frag) : R2 := fun x y H Q => (rAddI x y H Q ∨ rAddT x y H Q) ∨ (rCat x y H Q ∨ rCatP K x y H Q)
theorem op_addU {X : Cx} : OpR X (binaryOp .Add) (rAddU X.K) := OpR.or (OpR.or op_add op_add_str) (OpR.or op_cat op_catP)
theorem add_int {i j : Int} : RV2 K (rAddU K) (.int i) (.int j) (.d (.int (i + j))) := .inl (.inl rv_I0)
theorem add_str {i j : Str} (h : i.length + j.length ≤ sizeLine) : RV2 K (rAddU K) (.str i) (.str j) (.d (.str (i ++ j))) := .inl (.inr (by
  intro He Ge H G σ δ v u ok rv ru Q q
  cases rv; cases ru
  exact ⟨i, j, rfl, rfl, h, q _ _ (done ok .str)⟩))
theorem add_lst {xs ys : List D} (h : xs.length + ys.length ≤ sizeLine) : RV2 K (rAddU K) (.lst xs) (.lst ys) (.own (xs ++ ys)) := .inr (.inl (by
  intro He Ge H G σ δ v u ok rv ru Q q
  cases rv with
  | lst h1 r1 =>
    cases ru with
    | lst h2 r2 => exact ⟨_, _, _, _, rfl, rfl, ok.gh _ _ h1, ok.gh _ _ h2, by rw [← r1.length, ← r2.length]; exact h, fun p hp => q _ _ (doneL ok hp (r1.append r2))⟩))
theorem add_tup {xs ys : List D} (h : xs.length + ys.length ≤ sizeLine) : RV2 K (rAddU K) (.tup xs) (.tup ys) (.d (.tup (xs ++ ys))) := .inr (.inr (by
  intro He Ge H G σ δ v u ok rv ru Q q
  cases rv with
  | tup h1 r1 =>
    cases ru with
    | tup h2 r2 =>
      refine ⟨_, _, _, _, rfl, rfl, ok.gh.t h1.t, ok.gh.t h2.t, by rw [← r1.length, ← r2.length]; exact h, fun e => ?_, fun e1 e2 => ?_, fun e1 e2 p o hp hc hd => q _ _ (doneT ok hp hc hd (r1.append r2))⟩
      · subst e; cases r1; exact q _ _ (done ok (.tup h2 r2))
      · subst e2; cases r2; rw [List.append_nil] at q; exact q _ _ (done ok (.tup h1 r1))))
/-! ### -, *, //, %, ** -/
theorem sub_int {i j : Int} : RV2 K (rI0 fun i j => .int (i - j)) (.int i) (.int j) (.d (.int (i - j))) := rv_I0
section
open PySem.Spec PyProof.Rows
/-! ### tuples repeated, wider -/
def rRepW (K : PySem.W.Frag) : R2 := fun x y H Q => ∃ l k xs, x = .ref l ∧ y = .int k ∧ SqT K H l xs ∧ xs ≠ [] ∧ 2 ≤ k ∧ xs.length * k.toNat ≤ 1000000 ∧ k ≤ 1000000 ∧ NewT H (List.replicate k.toNat xs).flatten Q
theorem op_repW {X : Cx} : OpR X (binaryOp .Mult) (rRepW X.K) := by
  intro pins s σ H x y v u Q I rx ry h
  obtain ⟨l, k, xs, rfl, rfl, hT, hne, h1, hz, h2, q⟩ := h
  cases rx
  obtain ⟨t, rfl⟩ := ry
  obtain ⟨its, r, ⟨⟨cls, dd, data, sl⟩, ho, hc, n, hd⟩, hs⟩ := I.tuple hT
  simp only at hc hd
  subst hc hd
  have hle : its.length = xs.length := r.length.symm
  have hn : its ≠ [] := fun e => hne (by
    rw [e] at hle
    exact List.eq_nil_of_length_eq_zero hle.symm)
  have hi : its.toArray.isEmpty = false := by
    cases its with
    | nil => exact absurd rfl hn
    | cons a b => rfl
  have hsz0 : its.toArray.size = xs.length := by rw [List.size_toArray, hle]
  have hm : ((its.toArray.size : Nat) : Int) * k ≤ 1000000 := by
    rw [hsz0]
    have e : ((xs.length : Nat) : Int) * k = ((xs.length * k.toNat : Nat) : Int) := by push_cast; rw [Int.toNat_of_nonneg (by omega)]
    rw [e]; omega
  have flen : (List.replicate k.toNat its).flatten.length ≤ sizeLine := by
    rw [PyProof.Rows.lm_len_rep_flat, hle, sizeLine_eq, Nat.mul_comm]
    omega
  have c0 : (decide (k < -(2 ^ 63)) || decide (k ≥ 2 ^ 63)) = false := by
    rw [decide_eq_false (by omega), decide_eq_false (by omega)] <;> rfl
  have c1 : (its.toArray.isEmpty || k == 1) = false := by
    rw [hi, Bool.false_or]
    exact beq_eq_false_iff_ne.mpr (by omega)
  have c2 : (decide (k ≤ 0) || its.toArray.isEmpty) = false := by
    rw [hi, Bool.or_false]
    exact decide_eq_false (by omega)
  have c4 : Builtin.Tuple.tupleTooMany (((its.toArray.size : Nat) : Int) * k) = false := by
    unfold Builtin.Tuple.tupleTooMany
    rw [sizeLine_eq]
    exact decide_eq_false (by omega)
  refine wpAny_binaryOp_repeat_ref (T := "tuple") (U := "int") (by decide) ⟨_, ho, rfl⟩ (fun s' => typeIs_int s' k t) noFill_tuple_mul F.fills_int_mul F.slot_int_rmul repeat_tuple F.slot_int_index.lookup
    (call_meets F.slot_int_rmul (typeIs_int s k t) F.entry_int_rmul (F.args_int_rmul_2 _ _) (int_rmul_tuple k t l its.toArray n dd sl)
      ⟨ho, rfl, ⟨_, ho, rfl⟩, call_meets F.slot_tuple_mul ⟨_, ho, rfl⟩ F.entry_tuple_mul (F.args_tuple_mul_2 _ _) (tuple_mulW l its.toArray n dd sl k t c0 c1 c2 (by omega) c4 (by rw [size_rep, List.size_toArray]; exact flen)) ⟨ho, ?_⟩⟩)
  rw [size_rep]
  refine ⟨.ref s.heap.objs.size, _, I.laid (t' := s.toks) (o := .frz _ (.tup (List.replicate k.toNat xs).flatten)) (fun b ob q => Heap.get?_push_of_some _ q) (Nat.le_refl _) ⟨Heap.get?_push_size _ rfl, by rw [PyProof.Rows.lm_len_rep_flat, sizeLine_eq, Nat.mul_comm]; omega, _, r.rep k.toNat, IsTup.new _ _⟩, rfl, ?_⟩
  exact q _ _ (I.hok.fresh (Nat.le_refl _)) rfl rfl
open AutoSeq1 in
theorem tuple_mul1 (l : Addr) (items : Array Value) (n : Nat) (dd : Option Addr) (sl : Array (Option Value)) (u : Tok) :
    Meets (Builtin.«tuple.__mul__» ⟨[.ref l, .int 1 u], []⟩) (fun _ R s => s.heap.get? l = some { cls := .type "tuple", dict := dd, data := .seq items n, slots := sl } ∧ R (.ok (.ret (Value.ref l))) s) :=
  .of_wp fun prog w A R s h => by
    obtain ⟨hp, g, d, tk, os⟩ := s
    obtain ⟨hl, h⟩ := h
    have f1 := AutoSeq1.idx_int
    have c1 : (items.isEmpty || ((1 : Int) == 1)) = true := by simp
    wp_walk using wpAny_loadPart' hl
    exact ⟨_, rfl, h⟩
def rRep1 (K : PySem.W.Frag) : R2 := fun x y H Q => ∃ l xs, x = .ref l ∧ y = .int 1 ∧ SqT K H l xs ∧ Q x H
theorem op_rep1 {X : Cx} : OpR X (binaryOp .Mult) (rRep1 X.K) := by
  intro pins s σ H x y v u Q I rx ry h
  obtain ⟨l, xs, rfl, rfl, hT, q⟩ := h
  cases rx
  obtain ⟨t, rfl⟩ := ry
  obtain ⟨its, r, ⟨⟨cls, dd, data, sl⟩, ho, hc, n, hd⟩, hs⟩ := I.tuple hT
  simp only at hc hd
  subst hc hd
  refine wpAny_binaryOp_repeat_ref (T := "tuple") (U := "int") (by decide) ⟨_, ho, rfl⟩ (fun s' => typeIs_int s' 1 t) noFill_tuple_mul F.fills_int_mul F.slot_int_rmul repeat_tuple F.slot_int_index.lookup
    (call_meets F.slot_int_rmul (typeIs_int s 1 t) F.entry_int_rmul (F.args_int_rmul_2 _ _) (int_rmul_tuple 1 t l its.toArray n dd sl)
      ⟨ho, rfl, ⟨_, ho, rfl⟩, call_meets F.slot_tuple_mul ⟨_, ho, rfl⟩ F.entry_tuple_mul (F.args_tuple_mul_2 _ _) (tuple_mul1 l its.toArray n dd sl t) ⟨ho, ?_⟩⟩)
  exact ⟨.ref l, H, I.tok _, rfl, q⟩
end
def rMulU (K : PySem.W.Frag) : R2 := fun x y H Q => (rI CMul (fun i j => .int (i * j)) x y H Q ∨ rI CMulW (fun i j => .int (i * j)) x y H Q) ∨ (rRep x y H Q ∨ (rRepW K x y H Q ∨ rRep1 K x y H Q))
theorem op_mulU {X : Cx} : OpR X (binaryOp .Mult) (rMulU X.K) := OpR.or (OpR.or op_mul op_mulW) (OpR.or op_rep (OpR.or op_repW op_rep1))
theorem mul_int {i j : Int} (h : CMul i j) : RV2 K (rMulU K) (.int i) (.int j) (.d (.int (i * j))) := .inl (.inl (rv_I h))
theorem mul_wide {i j : Int} (h : CMulW i j) : RV2 K (rMulU K) (.int i) (.int j) (.d (.int (i * j))) := .inl (.inr (rv_I h))
theorem RpL.rep {H : Hp} {xs : List D} {vs : List V} (r : RpL K H xs vs) : ∀ k : Nat, RpL K H (List.replicate k xs).flatten (List.replicate k vs).flatten
  | 0 => .nil
  | k + 1 => by rw [List.replicate_succ, List.replicate_succ, List.flatten_cons, List.flatten_cons]; exact r.append (r.rep k)
theorem mul_lst {xs : List D} {k : Int} (h1 : -(2 ^ 63) ≤ k) (h2 : k < 2 ^ 63) (h3 : xs.length * k.toNat ≤ sizeLine) : RV2 K (rMulU K) (.lst xs) (.int k) (.own (List.replicate k.toNat xs).flatten) := .inr (.inl (by
  intro He Ge H G σ δ v u ok rv ru Q q
  cases ru
  cases rv with
  | lst hl r => exact ⟨_, k, _, rfl, rfl, ok.gh _ _ hl, h1, h2, by rw [← r.length]; exact h3, fun p hp => q _ _ (doneL ok hp (r.rep _))⟩))
theorem mul_tup {xs : List D} {k : Int} (h : xs ≠ []) (h1 : 2 ≤ k) (h2 : xs.length * k.toNat ≤ 1000000) (h3 : k ≤ 1000000) : RV2 K (rMulU K) (.tup xs) (.int k) (.d (.tup (List.replicate k.toNat xs).flatten)) := .inr (.inr (.inl (by
  intro He Ge H G σ δ v u ok rv ru Q q
  cases ru
  cases rv with
  | tup hl r => exact ⟨_, k, _, rfl, rfl, ok.gh.t hl.t, (fun e => h (by rw [e] at r; cases r; rfl)), h1, by rw [← r.length]; exact h2, h3, fun p o hp hc hd => q _ _ (doneT ok hp hc hd (r.rep _))⟩)))
theorem mul_tup1 {xs : List D} : RV2 K (rMulU K) (.tup xs) (.int 1) (.d (.tup xs)) := .inr (.inr (.inr (by
  intro He Ge H G σ δ v u ok rv ru Q q
  cases ru
  cases rv with
  | tup hl r => exact ⟨_, _, rfl, rfl, ok.gh.t hl.t, q _ _ (done ok (.tup hl r))⟩)))
theorem fdiv_int {i j : Int} (h : CDivW i j) : RV2 K (rI CDivW fun i j => .int (i / j)) (.int i) (.int j) (.d (.int (i / j))) := rv_I h
theorem mod_int {i j : Int} (h : 0 < j) : RV2 K (rI (fun _ j => 0 < j) fun i j => .int (i % j)) (.int i) (.int j) (.d (.int (i % j))) := rv_I h
theorem pow_int {i j : Int} (h : CPow i j) : RV2 K (rI CPow fun i j => .int (i ^ j.toNat)) (.int i) (.int j) (.d (.int (i ^ j.toNat))) := rv_I h
theorem neg_int {i : Int} : RV1 K (rU fun i => .int (-i)) (.int i) (.d (.int (-i))) := rv1_U
/-! ### comparisons -/
theorem lt_int {i j : Int} : RV2 K (rI0 fun i j => .bl (decide (i < j))) (.int i) (.int j) (.d (.bl (decide (i < j)))) := rv_B0
theorem le_int {i j : Int} : RV2 K (rI0 fun i j => .bl (decide (i ≤ j))) (.int i) (.int j) (.d (.bl (decide (i ≤ j)))) := rv_B0
theorem gt_int {i j : Int} : RV2 K (rI0 fun i j => .bl (decide (j < i))) (.int i) (.int j) (.d (.bl (decide (j < i)))) := rv_B0
theorem ge_int {i j : Int} : RV2 K (rI0 fun i j => .bl (decide (j ≤ i))) (.int i) (.int j) (.d (.bl (decide (j ≤ i)))) := rv_B0
mutual
def pd : D → PyData
  | .non => .none
  | .bl b => .bool b
  | .int i => .int i
  | .str x => .str x
  | .tup xs => .tuple (pdL xs)
  | .lst xs => .list (pdL xs)
  | .scr xs => .list (pdL xs)
  | _ => .none
def pdL : List D → List PyData
  | [] => []
  | x :: xs => pd x :: pdL xs
end
mutual
def pur : D → Bool
  | .non => true
  | .bl _ => true
  | .int _ => true
  | .str x => PyData.strOk x
  | .tup xs => purL xs
  | .lst xs => purL xs
  | .scr xs => purL xs
  | _ => false
def purL : List D → Bool
  | [] => true
  | x :: xs => pur x && purL xs
end
mutual
theorem Rp.dp {G : Hp} : ∀ {d : D} {v : V}, Rp K G d v → pur d = true → Dp K G v (pd d)
  | _, _, .non, _ => by unfold pd; exact .non
  | _, _, .bl, _ => by unfold pd; exact .bl _
  | _, _, .int, _ => by unfold pd; exact .int _
  | _, _, .str, _ => by unfold pd; exact .str _
  | _, _, .ty, h => by simp [pur] at h
  | _, _, .cls, h => by simp [pur] at h
  | _, _, .tup h r, p => by unfold pd; exact .tup h.t (RpL.dp r (by simpa [pur] using p))
  | _, _, .lst h r, p => by unfold pd; exact .lst (SqL.of h) (RpL.dp r (by simpa [pur] using p))
  | _, _, .scr h r, p => by unfold pd; exact .lst h (RpL.dp r (by simpa [pur] using p))
  | _, _, .ins _ _, h => by simp [pur] at h
  | _, _, .utp _ _, h => by simp [pur] at h
  | _, _, .dK _ _, h => by simp [pur] at h
  | _, _, .dO _, h => by simp [pur] at h
theorem RpL.dp {G : Hp} : ∀ {ds : List D} {vs : List V}, RpL K G ds vs → purL ds = true → DpAll K G vs (pdL ds)
  | _, _, .nil, _ => by unfold pdL; exact .nil
  | _, _, .cons h r, p => by
    unfold purL at p
    rw [Bool.and_eq_true] at p
    unfold pdL
    exact .cons (Rp.dp h p.1) (RpL.dp r p.2)
end
def rEqU (K : PySem.W.Frag) : R2 := fun x y H Q => rEq x y H Q ∨ rEqD K x y H Q
def rNeU (K : PySem.W.Frag) : R2 := fun x y H Q => rNe x y H Q ∨ rNeD K x y H Q
theorem op_eqU {X : Cx} (hu : X.A.units + 64 < cLine) : OpR X (compareOp .Eq) (rEqU X.K) := OpR.or op_eq (op_eqD hu)
theorem op_neU {X : Cx} (hu : X.A.units + 64 < cLine) : OpR X (compareOp .NotEq) (rNeU X.K) := OpR.or op_ne (op_neD hu)
theorem eq_scal {x y : D} {v u : V} {b : Bool} (h1 : ∀ G w, Rp K G x w → w = v) (h2 : ∀ G w, Rp K G y w → w = u) (hs : scal v u = true) (hb : decide (v = u) = b) : RV2 K (rEqU K) x y (.d (.bl b)) := .inl (by
  intro He Ge H G σ δ v' u' ok rv ru Q q
  have e1 := h1 _ _ rv
  have e2 := h2 _ _ ru
  subst e1; subst e2
  exact ⟨hs, by rw [hb]; exact q _ _ (done ok .bl)⟩)
theorem ne_scal {x y : D} {v u : V} {b : Bool} (h1 : ∀ G w, Rp K G x w → w = v) (h2 : ∀ G w, Rp K G y w → w = u) (hs : scal v u = true) (hb : (!decide (v = u)) = b) : RV2 K (rNeU K) x y (.d (.bl b)) := .inl (by
  intro He Ge H G σ δ v' u' ok rv ru Q q
  have e1 := h1 _ _ rv
  have e2 := h2 _ _ ru
  subst e1; subst e2
  exact ⟨hs, by rw [hb]; exact q _ _ (done ok .bl)⟩)
theorem rp_int_eq {i : Int} : ∀ G w, Rp K G (.int i) w → w = .int i := fun _ _ h => by cases h; rfl
theorem rp_str_eq {i : Str} : ∀ G w, Rp K G (.str i) w → w = .str i := fun _ _ h => by cases h; rfl
theorem rp_bl_eq {i : Bool} : ∀ G w, Rp K G (.bl i) w → w = .bl i := fun _ _ h => by cases h; rfl
theorem rp_non_eq : ∀ G w, Rp K G .non w → w = .non := fun _ _ h => by cases h; rfl
theorem dec_i {i j : Int} : decide (V.int i = V.int j) = decide (i = j) := by simp
theorem dec_s {i j : Str} : decide (V.str i = V.str j) = decide (i = j) := by simp
theorem dec_b {i j : Bool} : decide (V.bl i = V.bl j) = decide (i = j) := by simp
theorem eq_int {i j : Int} : RV2 K (rEqU K) (.int i) (.int j) (.d (.bl (decide (i = j)))) := eq_scal rp_int_eq rp_int_eq rfl dec_i
theorem eq_str {i j : Str} : RV2 K (rEqU K) (.str i) (.str j) (.d (.bl (decide (i = j)))) := eq_scal rp_str_eq rp_str_eq rfl dec_s
theorem eq_bl {i j : Bool} : RV2 K (rEqU K) (.bl i) (.bl j) (.d (.bl (decide (i = j)))) := eq_scal rp_bl_eq rp_bl_eq rfl dec_b
theorem eq_int_non {i : Int} : RV2 K (rEqU K) (.int i) .non (.d (.bl false)) := eq_scal rp_int_eq rp_non_eq rfl (by simp)
theorem eq_non_int {i : Int} : RV2 K (rEqU K) .non (.int i) (.d (.bl false)) := eq_scal rp_non_eq rp_int_eq rfl (by simp)
theorem eq_non : RV2 K (rEqU K) .non .non (.d (.bl true)) := by
  refine .inr ?_
  intro He Ge H G σ δ v u ok rv ru Q q
  cases rv; cases ru
  exact ⟨.none, .none, .non, .non, rfl, rfl, q _ _ (done ok .bl)⟩
theorem ne_int {i j : Int} : RV2 K (rNeU K) (.int i) (.int j) (.d (.bl (!decide (i = j)))) := ne_scal rp_int_eq rp_int_eq rfl (by rw [dec_i])
theorem ne_str {i j : Str} : RV2 K (rNeU K) (.str i) (.str j) (.d (.bl (!decide (i = j)))) := ne_scal rp_str_eq rp_str_eq rfl (by rw [dec_s])
theorem ne_bl {i j : Bool} : RV2 K (rNeU K) (.bl i) (.bl j) (.d (.bl (!decide (i = j)))) := ne_scal rp_bl_eq rp_bl_eq rfl (by rw [dec_b])
theorem ne_int_non {i : Int} : RV2 K (rNeU K) (.int i) .non (.d (.bl true)) := ne_scal rp_int_eq rp_non_eq rfl (by simp)
theorem ne_non_int {i : Int} : RV2 K (rNeU K) .non (.int i) (.d (.bl true)) := ne_scal rp_non_eq rp_int_eq rfl (by simp)
theorem ne_non : RV2 K (rNeU K) .non .non (.d (.bl false)) := by
  refine .inr ?_
  intro He Ge H G σ δ v u ok rv ru Q q
  cases rv; cases ru
  exact ⟨.none, .none, .non, .non, rfl, rfl, q _ _ (done ok .bl)⟩
theorem eq_dat {x y : D} (p1 : pur x = true) (p2 : pur y = true) (h1 : SeqAt.shaped (pd x) = true) (h2 : SeqAt.shaped (pd y) = true) : RV2 K (rEqU K) x y (.d (.bl (PyData.eqv (pd x) (pd y)))) := .inr (by
  intro He Ge H G σ δ v u ok rv ru Q q
  exact ⟨_, _, (rv.mono ok.gh).dp p1, (ru.mono ok.gh).dp p2, h1, h2, q _ _ (done ok .bl)⟩)
theorem ne_dat {x y : D} (p1 : pur x = true) (p2 : pur y = true) (h1 : SeqAt.shaped (pd x) = true) (h2 : SeqAt.shaped (pd y) = true) : RV2 K (rNeU K) x y (.d (.bl (!PyData.eqv (pd x) (pd y)))) := .inr (by
  intro He Ge H G σ δ v u ok rv ru Q q
  exact ⟨_, _, (rv.mono ok.gh).dp p1, (ru.mono ok.gh).dp p2, h1, h2, q _ _ (done ok .bl)⟩)
def rIsN : R2 := fun x y H Q => y = .non ∧ Q (.bl (decide (x = .non))) H
def rNotN : R2 := fun x y H Q => y = .non ∧ Q (.bl (!decide (x = .non))) H
theorem op_isN1 {X : Cx} : OpR X (compareOp .Is) rIsN := op_isN
theorem op_notN1 {X : Cx} : OpR X (compareOp .IsNot) rNotN := op_notN
def isNon : D → Bool
  | .non => true | _ => false
theorem Rp.non_iff {G : Hp} {x : D} {v : V} (h : Rp K G x v) : decide (v = .non) = isNon x := by cases h <;> simp [isNon]
theorem is_non {x : D} : RV2 K rIsN x .non (.d (.bl (isNon x))) := by
  intro He Ge H G σ δ v u ok rv ru Q q
  cases ru
  exact ⟨rfl, by rw [rv.non_iff]; exact q _ _ (done ok .bl)⟩
theorem not_non {x : D} : RV2 K rNotN x .non (.d (.bl (!isNon x))) := by
  intro He Ge H G σ δ v u ok rv ru Q q
  cases ru
  exact ⟨rfl, by rw [rv.non_iff]; exact q _ _ (done ok .bl)⟩
def rIsB : R2 := fun x y H Q => ∃ a b, x = .bl a ∧ y = .bl b ∧ Q (.bl (decide (a = b))) H
def rNotB : R2 := fun x y H Q => ∃ a b, x = .bl a ∧ y = .bl b ∧ Q (.bl (!decide (a = b))) H
/-! ### truth -/
def tTru (K : PySem.W.Frag) (ta : TE) : TT := fun σ H Q => ta σ H fun x H' => ∃ k, TruV K x H' k ∧ Q k H'
variable {δ : List S} {te ta tb : TE} {x y : D} {s : S}
/-- a value's truth -/
inductive TrD : D → Bool → Prop
  | non : TrD .non false
  | bl (b : Bool) : TrD (.bl b) b
  | int (i : Int) : TrD (.int i) (i != 0)
  | str (x : Str) (h : x.length ≤ sizeLine) : TrD (.str x) ((x.length : Int) != 0)
  | lst (xs : List D) : TrD (.lst xs) (!xs.isEmpty)
  | tup (xs : List D) : TrD (.tup xs) (!xs.isEmpty)
theorem RpL.isEmpty {G : Hp} {xs : List D} {vs : List V} (r : RpL K G xs vs) : vs.isEmpty = xs.isEmpty := by cases r <;> rfl
theorem TrD.to {b : Bool} (h : TrD x b) {G H : Hp} {v : V} (e : Ex G H) (r : Rp K G x v) : TruV K v H b := by
  cases h with
  | non => cases r; rfl
  | bl => cases r; rfl
  | int => cases r; rfl
  | str _ h => cases r; exact ⟨h, rfl⟩
  | lst xs => cases r with | lst h r => exact .inl ⟨_, SqL.of (e _ _ h), by rw [r.isEmpty]⟩
  | tup xs => cases r with | tup h r => exact .inr (.inl ⟨_, e.t h.t, by rw [r.isEmpty]⟩)
theorem eb_tru {b : Bool} (h : EV K te δ (.d x)) (t : TrD x b) : EB K (tTru K te) δ b := by
  intro He Ge H τo τs σ hl ok Q q
  refine h He Ge H τo τs σ hl ok _ fun v H1 ⟨G, ok1⟩ => ?_
  obtain ⟨_, e1, r1⟩ := ok1.top
  cases e1
  exact ⟨b, t.to ok1.gh r1, q H1 ⟨G, ok1.pop⟩⟩
theorem ev_orT {b : Bool} {s2 : S} (h : EV K ta δ (.d x)) (t : TrD x b) (h2 : b = false → EV K tb δ s2) : EV K (tOrT K ta tb) δ (if b = true then .d x else s2) := by
  intro He Ge H τo τs σ hl ok Q q
  refine h He Ge H τo τs σ hl ok _ fun v H1 ⟨G, ok1⟩ => ?_
  obtain ⟨_, e1, r1⟩ := ok1.top
  cases e1
  refine ⟨b, t.to ok1.gh r1, ?_⟩
  cases b with
  | true => exact iteT (q v H1 ⟨G, ok1⟩)
  | false => exact iteF (h2 rfl He Ge H1 τo τs σ hl ⟨G, ok1.pop⟩ Q q)
theorem ev_andT {b : Bool} {s2 : S} (h : EV K ta δ (.d x)) (t : TrD x b) (h2 : b = true → EV K tb δ s2) : EV K (tAndT K ta tb) δ (if b = true then s2 else .d x) := by
  intro He Ge H τo τs σ hl ok Q q
  refine h He Ge H τo τs σ hl ok _ fun v H1 ⟨G, ok1⟩ => ?_
  obtain ⟨_, e1, r1⟩ := ok1.top
  cases e1
  refine ⟨b, t.to ok1.gh r1, ?_⟩
  cases b with
  | true => exact iteT (h2 rfl He Ge H1 τo τs σ hl ⟨G, ok1.pop⟩ Q q)
  | false => exact iteF (q v H1 ⟨G, ok1⟩)
theorem ev_orB {a b : Bool} (h : EV K ta δ (.d (.bl a))) (h2 : a = false → EV K tb δ (.d (.bl b))) : EV K (tOrT K ta tb) δ (.d (.bl (a || b))) :=
  ev_is (ev_orT (s2 := .d (.bl b)) h (.bl a) h2) (by cases a <;> rfl)
theorem ev_andB {a b : Bool} (h : EV K ta δ (.d (.bl a))) (h2 : a = true → EV K tb δ (.d (.bl b))) : EV K (tAndT K ta tb) δ (.d (.bl (a && b))) :=
  ev_is (ev_andT (s2 := .d (.bl b)) h (.bl a) h2) (by cases a <;> rfl)
theorem ev_notT {b : Bool} (h : EV K ta δ (.d x)) (t : TrD x b) : EV K (tNotT K ta) δ (.d (.bl (!b))) := by
  intro He Ge H τo τs σ hl ok Q q
  refine h He Ge H τo τs σ hl ok _ fun v H1 ⟨G, ok1⟩ => ?_
  obtain ⟨_, e1, r1⟩ := ok1.top
  cases e1
  exact ⟨b, t.to ok1.gh r1, q _ H1 ⟨G, ok1.pop.pushD .bl⟩⟩
/-! ### items, slices -/
theorem atI_len {α β : Type} {xs : List α} {vs : List β} {i : Int} {v : α} (hl : xs.length = vs.length) (h : atI xs i = some v) : ∃ j : Nat, ixN vs.length i = some j ∧ xs[j]? = some v := by
  unfold atI at h
  rw [hl] at h
  cases e : ixN vs.length i with
  | none => rw [e] at h; cases h
  | some j => rw [e] at h; exact ⟨j, rfl, h⟩
theorem RpL.atI {G : Hp} {xs : List D} {vs : List V} {i : Int} {x : D} (r : RpL K G xs vs) (h : L2.atI xs i = some x) : ∃ v, L2.atI vs i = some v ∧ Rp K G x v := by
  obtain ⟨j, e1, e2⟩ := atI_len r.length h
  obtain ⟨v, e3, rv⟩ := r.get e2
  exact ⟨v, by unfold L2.atI; rw [e1]; exact e3, rv⟩
theorem ix_lst {xs : List D} {i : Int} (h : L2.atI xs i = some x) : RV2 K (rIx K) (.lst xs) (.int i) (.d x) := by
  intro He Ge H G σ δ v u ok rv ru Q q
  cases ru
  cases rv with
  | lst hl r =>
    obtain ⟨w, e, rw_⟩ := r.atI h
    exact .inl ⟨_, _, i, w, rfl, rfl, SqL.of (ok.gh _ _ hl), e, q _ _ (done ok rw_)⟩
theorem ix_scr {xs : List D} {i : Int} (h : L2.atI xs i = some x) : RV2 K (rIx K) (.scr xs) (.int i) (.d x) := by
  intro He Ge H G σ δ v u ok rv ru Q q
  cases ru
  cases rv with
  | scr hl r =>
    obtain ⟨w, e, rw_⟩ := r.atI h
    exact .inl ⟨_, _, i, w, rfl, rfl, ok.gh.l hl, e, q _ _ (done ok rw_)⟩
theorem ix_tup {xs : List D} {i : Int} (h : L2.atI xs i = some x) : RV2 K (rIx K) (.tup xs) (.int i) (.d x) := by
  intro He Ge H G σ δ v u ok rv ru Q q
  cases ru
  cases rv with
  | tup hl r =>
    obtain ⟨w, e, rw_⟩ := r.atI h
    exact .inr (.inl ⟨_, _, i, w, rfl, rfl, ok.gh.t hl.t, e, q _ _ (done ok rw_)⟩)
theorem ix_str {z : Str} {i : Int} {c : Nat} (hz : z.length ≤ sizeLine) (h : L2.atI z.cps.toList i = some c) : RV2 K (rIx K) (.str z) (.int i) (.d (.str ⟨#[c]⟩)) := by
  intro He Ge H G σ δ v u ok rv ru Q q
  cases ru; cases rv
  exact .inr (.inr ⟨z, i, c, rfl, rfl, hz, h, q _ _ (done ok .str)⟩)
/-- len -/
theorem len_lst {xs : List D} : RVN K (fun vs H Q => ∃ x n, vs = [x] ∧ LenV K x H n ∧ Q (.int n) H) [.lst xs] (.d (.int xs.length)) := by
  intro He Ge H G σ δ vs ok r Q q
  cases r with
  | cons r0 r2 =>
    cases r2
    cases r0 with
    | lst h r => exact ⟨_, xs.length, rfl, .inl ⟨_, SqL.of (ok.gh _ _ h), r.length⟩, q _ _ (done ok .int)⟩
theorem len_scr {xs : List D} : RVN K (fun vs H Q => ∃ x n, vs = [x] ∧ LenV K x H n ∧ Q (.int n) H) [.scr xs] (.d (.int xs.length)) := by
  intro He Ge H G σ δ vs ok r Q q
  cases r with
  | cons r0 r2 =>
    cases r2
    cases r0 with
    | scr h r => exact ⟨_, xs.length, rfl, .inl ⟨_, ok.gh.l h, r.length⟩, q _ _ (done ok .int)⟩
theorem len_tup {xs : List D} : RVN K (fun vs H Q => ∃ x n, vs = [x] ∧ LenV K x H n ∧ Q (.int n) H) [.tup xs] (.d (.int xs.length)) := by
  intro He Ge H G σ δ vs ok r Q q
  cases r with
  | cons r0 r2 =>
    cases r2
    cases r0 with
    | tup h r => exact ⟨_, xs.length, rfl, .inr ⟨_, ok.gh.t h.t, r.length⟩, q _ _ (done ok .int)⟩
theorem len_str {z : Str} (hz : z.length ≤ sizeLine) : RVN K (fun vs H Q => ∃ x n, vs = [x] ∧ LenV K x H n ∧ Q (.int n) H) [.str z] (.d (.int z.length)) := by
  intro He Ge H G σ δ vs ok r Q q
  cases r with
  | cons r0 r2 => cases r2; cases r0; exact ⟨_, z.length, rfl, ⟨hz, rfl⟩, q _ _ (done ok .int)⟩
theorem min2 {i j : Int} : RVN K (fun xs H Q => ∃ i j, xs = [.int i, .int j] ∧ Q (.int (if j < i then j else i)) H) [.int i, .int j] (.d (.int (min i j))) := by
  intro He Ge H G σ δ vs ok r Q q
  cases r with
  | cons r0 r2 =>
    cases r0
    cases r2 with
    | cons r0 r2 =>
      cases r0; cases r2
      have e : (if j < i then j else i) = min i j := by split <;> omega
      exact ⟨i, j, rfl, by rw [e]; exact q _ _ (done ok .int)⟩
theorem max2 {i j : Int} : RVN K (fun xs H Q => ∃ i j, xs = [.int i, .int j] ∧ Q (.int (if j > i then j else i)) H) [.int i, .int j] (.d (.int (max i j))) := by
  intro He Ge H G σ δ vs ok r Q q
  cases r with
  | cons r0 r2 =>
    cases r0
    cases r2 with
    | cons r0 r2 =>
      cases r0; cases r2
      have e : (if j > i then j else i) = max i j := by split <;> omega
      exact ⟨i, j, rfl, by rw [e]; exact q _ _ (done ok .int)⟩
theorem all_bls {bs : List Bool} : RVN K (rAll K) [.lst (bs.map .bl)] (.d (.bl (bs.all id))) := by
  intro He Ge H G σ δ vs ok r Q q
  cases r with
  | cons r0 r2 =>
    cases r2
    cases r0 with
    | lst h r =>
      have e : ∀ {bs : List Bool} {vs : List V}, RpL K G (bs.map .bl) vs → vs = bs.map V.bl := by
        intro bs
        induction bs with
        | nil => intro vs r; cases r; rfl
        | cons b bs ih => intro vs r; cases r with | cons r0 r => cases r0; rw [ih r]; rfl
      have := e r
      subst this
      exact ⟨_, bs, rfl, SqL.of (ok.gh _ _ h), q _ _ (done ok .bl)⟩
/-! ### isinstance of built-in kinds -/
def tyN : D → String
  | .non => "NoneType" | .bl _ => "bool" | .int _ => "int" | .str _ => "str" | .tup _ => "tuple" | .utp _ => "object" | .lst _ => "list" | .scr _ => "list" | .ty _ => "type" | .cls _ => "type" | .ins _ _ => "object" | .dK _ => "dict" | .dO _ => "dict" | .exc _ _ => "object" | .lam _ _ _ _ _ => "function"
def known : D → Bool
  | .non => true | .bl _ => true | .int _ => true | .str _ => true | .tup _ => true | .lst _ => true | .dK _ => true | _ => false
def isTy (x : D) (n : String) : Bool := (kitB (tyN x) n).getD false
theorem known_ty {G H : Hp} {v : V} (hk : known x = true) (e : Ex G H) (r : Rp K G x v) : TyX K H v (.type (tyN x)) := by
  cases r with
  | non => exact .base .non
  | bl => exact .base (.bl _)
  | int => exact .base (.int _)
  | str => exact .base (.str _)
  | tup h r =>
    rcases h.t with (h | ⟨o, h⟩) | ⟨o, its, n, h1, h2, _⟩
    · exact .base (.tup (e _ _ h))
    · exact .fTuple (e _ _ h)
    · exact .kTuple h1 h2
  | lst h r => exact .base (.lst (e _ _ h))
  | dK h r => exact .base (.dK (e _ _ h))
  | _ => simp [known] at hk
theorem isi_ty {n : String} (hk : known x = true) (h : (kitB (tyN x) n).isSome = true) : RVN K (rIsi K) [x, .ty n] (.d (.bl (isTy x n))) := by
  intro He Ge H G σ δ vs ok r Q q
  cases r with
  | cons r0 r2 =>
    cases r2 with
    | cons r1 r2 =>
      cases r1; cases r2
      refine ⟨_, _, _, _, isTy x n, rfl, .ty n, known_ty hk ok.gh r0, kit_ty ?_, q _ _ (done ok .bl)⟩
      unfold isTy
      cases e : kitB (tyN x) n with
      | none => rw [e] at h; cases h
      | some b => rfl
end
end Far
/-! More rules: least and greatest with a default, what is walked, slices. -/
namespace Far
open PySem L2 PyProof.Rows
section
variable {X : Cx}
/-! ### either rule -/
theorem PI.or {tg l : Expr} {a b : TI} (h : PI X tg l a) (h' : PI X tg l b) : PI X tg l (fun σ H R => a σ H R ∨ b σ H R) := ⟨fun pins s σ H R I q => q.elim (h.run pins s σ H R I) (h'.run pins s σ H R I)⟩
theorem PG.or {tg : Expr} {a b : TG} (h : PG X tg a) (h' : PG X tg b) : PG X tg (fun v σ H Q => a v σ H Q ∨ b v σ H Q) := ⟨fun pins s σ H v u Q I r q => q.elim (h.run pins s σ H v u Q I r) (h'.run pins s σ H v u Q I r)⟩
/-! ### max(xs, default=d), min .. -/
def rMxD (f : Int → Int → Int) (K : PySem.W.Frag) : List V → List V → Hp → VK → Prop := fun xs zs H Q => ∃ (a : Addr) (ns : List Int) (d : V), xs = [.ref a] ∧ zs = [d] ∧ SqL K H a (ns.map V.int) ∧
  match ns with | [] => Q d H | n :: r => Q (.int (r.foldl f n)) H
theorem reads_ints {h : Heap} : ∀ {us : List Value} {ns : List Int}, IntsAre us ns → ReadsAll h us (ns.map PyData.int) []
  | _, _, .nil => .nil
  | _, _, .cons n t r => by
    have := ReadsAll.cons (Reads.int (h := h) n t) (reads_ints r)
    exact this
theorem alike_ints (ns : List Int) : PySem.W.AlikeAll (ns.map PyData.int) := by
  refine ⟨fun x hx y hy => ?_, fun x hx => ?_⟩
  · obtain ⟨i, _, rfl⟩ := List.mem_map.mp hx
    obtain ⟨j, _, rfl⟩ := List.mem_map.mp hy
    rfl
  · obtain ⟨i, _, rfl⟩ := List.mem_map.mp hx
    exact fun z => nomatch z
theorem depth_ints : ∀ ns : List Int, PyData.depthAll (ns.map PyData.int) = 0
  | [] => rfl
  | n :: r => by rw [List.map_cons]; unfold PyData.depthAll; rw [depth_ints r]; rfl
theorem call_maxD (hc : X.calm = true) (hu : X.A.units + 64 < cLine) : CallRK X (.builtin "max") ["default"] (rMxD max X.K) := by
  intro pins s σ H xs zs us ws Q I r rz q
  obtain ⟨a, ns, d, rfl, rfl, hs, q⟩ := q
  obtain ⟨its, rv, hl, _⟩ := I.list hs
  rw [Vals.ref1 r]
  obtain ⟨u, rfl, ru⟩ := Vals.one rz
  have hi := Vals.ints rv
  refine PySem.W.max_list_default (I.ok.hd hc) hl.isList (xs := ns.map PyData.int) (reads_ints hi) (alike_ints ns) (by rw [depth_ints]; omega) (fun e h' tk hk => ?_) fun y ys i v h' tk bs e hv hr hk => ?_
  · cases ns with
    | nil => exact ⟨d, H, I.kept hk, ru, q⟩
    | cons n r => simp at e
  · cases ns with
    | nil => simp at e
    | cons n r =>
      rw [List.map_cons] at e
      injection e with e1 e2
      subst e1; subst e2
      rw [PySem.W.maxD_ints] at hr
      cases hr
      exact ⟨.int _, H, I.kept hk, ⟨_, rfl⟩, q⟩
theorem call_minD (hc : X.calm = true) (hu : X.A.units + 64 < cLine) : CallRK X (.builtin "min") ["default"] (rMxD min X.K) := by
  intro pins s σ H xs zs us ws Q I r rz q
  obtain ⟨a, ns, d, rfl, rfl, hs, q⟩ := q
  obtain ⟨its, rv, hl, _⟩ := I.list hs
  rw [Vals.ref1 r]
  obtain ⟨u, rfl, ru⟩ := Vals.one rz
  have hi := Vals.ints rv
  refine PySem.W.min_list_default (I.ok.hd hc) hl.isList (xs := ns.map PyData.int) (reads_ints hi) (alike_ints ns) (by rw [depth_ints]; omega) (fun e h' tk hk => ?_) fun y ys i v h' tk bs e hv hr hk => ?_
  · cases ns with
    | nil => exact ⟨d, H, I.kept hk, ru, q⟩
    | cons n r => simp at e
  · cases ns with
    | nil => simp at e
    | cons n r =>
      rw [List.map_cons] at e
      injection e with e1 e2
      subst e1; subst e2
      rw [PySem.W.minD_ints] at hr
      cases hr
      exact ⟨.int _, H, I.kept hk, ⟨_, rfl⟩, q⟩
/-! ### what is walked: a list or a tuple -/
def iSeq (K : PySem.W.Frag) (te : TE) : TI := fun σ H R => iList K te σ H R ∨ iTup K te σ H R
theorem pi_seq {tg l : Expr} {te : TE} (h : PE X l te) : PI X tg l (iSeq X.K te) := PI.or (pi_list h) (pi_tup h)
def gSeq (K : PySem.W.Frag) (n : Nat) (gs : TGs) : TG := fun v σ H Q => gTup K n gs v σ H Q ∨ gLst K n gs v σ H Q
theorem pg_seq {es : List Expr} {k : Nat} {pos : Pos} {t : TGs} {n : Nat} (hc : X.calm = true) (h : PGs X es t) (hn : (assignEach es X.env).length = n := by rfl) (hst : (assignEach es X.env).findIdx? (·.1) = none := by rfl) : PG X (.Tuple es k pos) (gSeq X.K n t) :=
  PG.or (pg_tup hc h hn hst) (pg_lst hc h hn hst)
def iRngU1 (ta : TA) : TI := iRng1 ta
def iRngU2 (ta : TA) : TI := iRng2 ta
theorem pi_rangeU1 {tg a : Expr} {ta : TA} {p pos : Pos} (hg : Gl X "range") (hm : X.mg "range" = none) (ha : PA X [a] ta) (hs : starEach [a] X.env = [(false, eval a X.env)] := by rfl) : PI X tg (.Call (.Name "range" p) [a] [] pos) (iRngU1 ta) := pi_range1 hg hm ha hs
theorem pi_rangeU2 {tg a b : Expr} {ta : TA} {p pos : Pos} (hg : Gl X "range") (hm : X.mg "range" = none) (ha : PA X [a, b] ta) (hs : starEach [a, b] X.env = [(false, eval a X.env), (false, eval b X.env)] := by rfl) (hs2 : starEach [b] X.env = [(false, eval b X.env)] := by rfl) : PI X tg (.Call (.Name "range" p) [a, b] [] pos) (iRngU2 ta) := pi_range2 hg hm ha hs hs2
/-! ### calls of types -/
def rTupU (K : PySem.W.Frag) : List V → Hp → VK → Prop := fun xs H Q => ∃ p ys, xs = [.ref p] ∧ ((SqL K H p ys ∧ NewT H ys Q) ∨ (SqT K H p ys ∧ Q (.ref p) H))
section
open PySem.Spec PyProof.Rows
theorem call_tupleU {X : Cx} : CallR X (.type "tuple") (rTupU X.K) := by
  intro pins s σ H xs us Q I r h
  obtain ⟨p, ys, rfl, h⟩ := h
  obtain ⟨u, rfl, rx⟩ := vals1 r
  cases rx
  rcases h with ⟨hq, q⟩ | ⟨hq, q⟩
  · obtain ⟨its, r', pl, hz⟩ := I.list hq
    have hlen := r'.length
    refine call_tuple_list pl.isList (fun h' kp => ?_) (by simp only [List.size_toArray] <;> omega)
    have I1 : Inv X pins σ H { s with heap := h' } := I.kept (t' := s.toks) kp
    refine ⟨.ref h'.objs.size, _, I1.laid (t' := s.toks) (o := .frz _ (.tup ys)) (fun b o e => Heap.get?_push_of_some _ e) (Nat.le_refl _) ⟨Heap.get?_push_size _ rfl, hz, its, r', IsTup.new _ _⟩, rfl, ?_⟩
    exact q _ _ (I1.hok.fresh (Nat.le_refl _)) rfl rfl
  · obtain ⟨its, r', pl, hz⟩ := I.tuple hq
    exact call_tuple_same pl ⟨.ref p, H, I, rfl, q⟩
end
def rLstU (K : PySem.W.Frag) : List V → Hp → VK → Prop := fun xs H Q => ∃ p ys, xs = [.ref p] ∧ (SqL K H p ys ∨ SqT K H p ys) ∧ ∀ l, H l = none → Q (.ref l) (upd H l (.lst ys))
theorem call_listU : CallR X (.type "list") (rLstU X.K) := call_list_of
def rIntU : List V → Hp → VK → Prop := fun xs H Q => ((∃ i, xs = [.int i] ∧ Q (.int i) H) ∨ ∃ k, xs = [.bl k] ∧ Q (.int (if k then 1 else 0)) H) ∨ ∃ a n, xs = [.str a] ∧ PySem.intText? a = some n ∧ a.length ≤ 640 ∧ Q (.int n) H
theorem call_intU : CallR X (.type "int") rIntU := CallR.or call_int1 call_int_str
def rStrU : List V → Hp → VK → Prop := fun xs H Q => (∃ i, xs = [.int i] ∧ i.natAbs.log2 < 1920 ∧ Q (.str (toString i)) H) ∨ ∃ a, xs = [.str a] ∧ Q (.str a) H
theorem call_strU : CallR X (.type "str") rStrU := CallR.or call_str_int SkE.call_str_str
abbrev rLenU (K : PySem.W.Frag) : List V → Hp → VK → Prop := fun xs H Q => ∃ x n, xs = [x] ∧ LenV K x H n ∧ Q (.int n) H
abbrev rMx2 : List V → Hp → VK → Prop := fun xs H Q => ∃ i j, xs = [.int i, .int j] ∧ Q (.int (if j > i then j else i)) H
abbrev rMn2 : List V → Hp → VK → Prop := fun xs H Q => ∃ i j, xs = [.int i, .int j] ∧ Q (.int (if j < i then j else i)) H
/-! ### slices -/
/-- t[lo:hi]: the whole of it is t itself -/
def rSlP (K : PySem.W.Frag) : V → Option Int → Option Int → Hp → VK → Prop := fun x lo hi H Q => ∃ a xs, x = .ref a ∧ SqT K H a xs ∧
  (HT.sIx xs.length 0 lo = 0 ∧ HT.sIx xs.length xs.length hi = xs.length → Q (.ref a) H) ∧ (¬ (HT.sIx xs.length 0 lo = 0 ∧ HT.sIx xs.length xs.length hi = xs.length) → NewT H (cutV xs lo hi) Q)
section
open PySem.Spec PyProof.Rows
theorem sl_tupP {X : Cx} : SlR X (rSlP X.K) := by
  intro pins s σ H x v vl vu lo hi sl Q I rx hs pl pu h
  obtain ⟨a, xs, rfl, hx, q1, q2⟩ := h
  cases rx
  obtain ⟨its, r, ht, hz⟩ := I.tuple hx
  have hlen : its.toArray.size = xs.length := by rw [List.size_toArray]; exact r.length.symm
  refine ⟨"tuple", _, PyProof.Rows.slot_tuple_getitem.lookup, ht.typeIs, ?_⟩
  by_cases hw : HT.sIx xs.length 0 lo = 0 ∧ HT.sIx xs.length xs.length hi = xs.length
  · exact getItem_tuple_whole ht hs pl pu (by rw [hlen]; exact hw) ⟨.ref a, H, I, rfl, q1 hw⟩
  · refine HT.getItem_tuple_cut ht hs pl pu (by rw [hlen]; exact hw) ?_ (by rw [hlen]; exact hz)
    rw [hlen]
    refine ⟨.ref s.heap.objs.size, _, I.laid (t' := s.toks) (o := .frz _ (.tup (cutV xs lo hi))) (fun b ob q => Heap.get?_push_of_some _ q) (Nat.le_refl _) ⟨Heap.get?_push_size _ rfl, Nat.le_trans (cutV_length xs lo hi) hz, _, (r.drop (HT.sIx xs.length 0 lo)).take (HT.sIx xs.length xs.length hi - HT.sIx xs.length 0 lo), IsTup.new _ _⟩, rfl, ?_⟩
    exact q2 hw _ _ (I.hok.fresh (Nat.le_refl _)) rfl rfl
end
def rSlU (K : PySem.W.Frag) : V → Option Int → Option Int → Hp → VK → Prop := fun x lo hi H Q => rSlL K x lo hi H Q ∨ (rSlP K x lo hi H Q ∨ rSlS x lo hi H Q)
theorem sl_U : SlR X (rSlU X.K) := SlR.or sl_list (SlR.or sl_tupP sl_str)
/-! ### in -/
def rInU (K : PySem.W.Frag) : R2 := fun x y H Q => rIn K false x y H Q ∨ ∃ i j, x = .str i ∧ y = .str j ∧ Q (.bl (!(Builtin.Str.occurrences j i 0 j.length 1).isEmpty)) H
def rNotInU (K : PySem.W.Frag) : R2 := fun x y H Q => rIn K true x y H Q ∨ ∃ i j, x = .str i ∧ y = .str j ∧ Q (.bl (!(!(Builtin.Str.occurrences j i 0 j.length 1).isEmpty))) H
theorem op_inU : OpR X (compareOp .In) (rInU X.K) := OpR.or op_in_seq op_in_str
theorem op_notInU : OpR X (compareOp .NotIn) (rNotInU X.K) := OpR.or op_notIn_seq op_notIn_str
end
section
variable {K : PySem.W.Frag} {δ : List S} {te ta tb : TE} {x y : D} {s : S} {xs ys : List D}
theorem rp_ints_inv {G : Hp} : ∀ {ns : List Int} {vs : List V}, RpL K G (ns.map .int) vs → vs = ns.map V.int
  | [], _, .nil => rfl
  | _ :: _, _, .cons h r => by cases h; rw [rp_ints_inv r]; rfl
def mxD (f : Int → Int → Int) : List Int → D → D
  | [], d => d
  | n :: r, _ => .int (r.foldl f n)
theorem ev_mxD {f : Int → Int → Int} {t tk : TA} {ns : List Int} (h1 : EA K t δ [.lst (ns.map .int)]) (h2 : EA K tk δ [y]) : EV K (tCKw (rMxD f K) t tk) δ (.d (mxD f ns y)) := by
  intro He Ge H τo τs σ hl ok Q q
  refine h1 He Ge H τo τs σ hl ok _ fun vs H1 G1 ok1 r1 => ?_
  cases r1 with
  | cons r1 r2 =>
    cases r2
    refine h2 He Ge H1 (some _ :: τo) (.d (.lst (ns.map .int)) :: τs) σ (by simp [hl]) ⟨G1, ok1.pushD r1⟩ _ fun zs H2 G2 ok2 rz => ?_
    obtain ⟨_, e, rl⟩ := ok2.top
    cases e
    cases rz with
    | cons rd r3 =>
      cases r3
      cases rl with
      | lst hl2 rr =>
        have e2 := rp_ints_inv rr
        subst e2
        refine ⟨_, ns, _, rfl, rfl, SqL.of (ok2.gh _ _ hl2), ?_⟩
        cases ns with
        | nil => exact q _ _ (done ok2.pop rd)
        | cons n r => exact q _ _ (done ok2.pop .int)
theorem ei_seqL (h : EV K te δ (.d (.lst xs))) : EI K (iSeq K te) δ xs := fun He Ge H τo τs σ hl ok R q => .inl (ei_list h He Ge H τo τs σ hl ok R q)
theorem ei_seqT (h : EV K te δ (.d (.tup xs))) : EI K (iSeq K te) δ xs := fun He Ge H τo τs σ hl ok R q => .inr (ei_tup h He Ge H τo τs σ hl ok R q)
theorem ei_rngU1 {n : Int} {tr : TA} (h : EA K tr δ [.int n]) (h1 : -(2 ^ 62) ≤ n) (h2 : n < 2 ^ 62) : EI K (iRngU1 tr) δ (rg 0 n.toNat) := ei_rng1 h h1 h2
theorem ei_rngU2 {m n : Int} {tr : TA} (h : EA K tr δ [.int m, .int n]) (h1 : -(2 ^ 62) ≤ m ∧ m < 2 ^ 62 ∧ -(2 ^ 62) ≤ n ∧ n < 2 ^ 62) : EI K (iRngU2 tr) δ (rg m (n - m).toNat) := ei_rng2 h h1
theorem et_seqT {n : Nat} {gs : TGs} {δ' : List S} (h : ETs K gs δ xs δ') (hn : xs.length = n) : ET K (gSeq K n gs) δ (.tup xs) δ' := fun He Ge H G τo τs σ v hl ok r Q q => .inl (et_tup h hn He Ge H G τo τs σ v hl ok r Q q)
theorem et_seqL {n : Nat} {gs : TGs} {δ' : List S} (h : ETs K gs δ xs δ') (hn : xs.length = n) : ET K (gSeq K n gs) δ (.lst xs) δ' := fun He Ge H G τo τs σ v hl ok r Q q => .inr (et_lst h hn He Ge H G τo τs σ v hl ok r Q q)
theorem gok_seq {n : Nat} {gs : TGs} {vs : List Nat} (h : GsOk gs vs) : GOk (gSeq K n gs) vs := fun v σ H Q q => q.imp (fun ⟨a, xs, e, h1, h2, q⟩ => ⟨a, xs, e, h1, h2, h xs σ H Q q⟩) fun ⟨a, xs, e, h1, h2, q⟩ => ⟨a, xs, e, h1, h2, h xs σ H Q q⟩
theorem ev_dnew : EV K tDNewK δ (.d (.dK [])) := by
  intro He Ge H τo τs σ hl ⟨G, ok⟩ Q q
  intro p hp
  exact q _ _ ⟨_, (ok.newG hp).pushD (.dK upd_same .nil)⟩
theorem tuple_lst : RVN K (rTupU K) [.lst xs] (.d (.tup xs)) := by
  intro He Ge H G σ δ vs ok r Q q
  cases r with
  | cons r0 r2 =>
    cases r2
    cases r0 with
    | lst h r => exact ⟨_, _, rfl, .inl ⟨SqL.of (ok.gh _ _ h), fun l o hl hc hd => q _ _ (doneT ok hl hc hd r)⟩⟩
theorem tuple_tup : RVN K (rTupU K) [.tup xs] (.d (.tup xs)) := by
  intro He Ge H G σ δ vs ok r Q q
  cases r with
  | cons r0 r2 =>
    cases r2
    cases r0 with
    | tup h r => exact ⟨_, _, rfl, .inr ⟨ok.gh.t h.t, q _ _ (done ok (.tup h r))⟩⟩
theorem list_lst : RVN K (rLstU K) [.lst xs] (.own xs) := by
  intro He Ge H G σ δ vs ok r Q q
  cases r with
  | cons r0 r2 =>
    cases r2
    cases r0 with
    | lst h r => exact ⟨_, _, rfl, .inl (SqL.of (ok.gh _ _ h)), fun l hl => q _ _ (doneL ok hl r)⟩
theorem list_tup : RVN K (rLstU K) [.tup xs] (.own xs) := by
  intro He Ge H G σ δ vs ok r Q q
  cases r with
  | cons r0 r2 =>
    cases r2
    cases r0 with
    | tup h r => exact ⟨_, _, rfl, .inr (ok.gh.t h.t), fun l hl => q _ _ (doneL ok hl r)⟩
theorem int_int {i : Int} : RVN K rIntU [.int i] (.d (.int i)) := by
  intro He Ge H G σ δ vs ok r Q q
  cases r with
  | cons r0 r2 => cases r0; cases r2; exact .inl (.inl ⟨i, rfl, q _ _ (done ok .int)⟩)
theorem int_bl {b : Bool} : RVN K rIntU [.bl b] (.d (.int (if b then 1 else 0))) := by
  intro He Ge H G σ δ vs ok r Q q
  cases r with
  | cons r0 r2 => cases r0; cases r2; exact .inl (.inr ⟨b, rfl, q _ _ (done ok .int)⟩)
theorem str_int {i : Int} (h : i.natAbs.log2 < 1920) : RVN K rStrU [.int i] (.d (.str (toString i))) := by
  intro He Ge H G σ δ vs ok r Q q
  cases r with
  | cons r0 r2 => cases r0; cases r2; exact .inl ⟨i, rfl, h, q _ _ (done ok .str)⟩
theorem str_str {z : Str} : RVN K rStrU [.str z] (.d (.str z)) := by
  intro He Ge H G σ δ vs ok r Q q
  cases r with
  | cons r0 r2 => cases r0; cases r2; exact .inr ⟨z, rfl, q _ _ (done ok .str)⟩

variable {t : TT} {b : Bool}
theorem ev_ifI {i j : Int} (h : EB K t δ b) (h1 : b = true → EV K ta δ (.d (.int i))) (h2 : b = false → EV K tb δ (.d (.int j))) : EV K (tIf t ta tb) δ (.d (.int (if b = true then i else j))) := ev_is (ev_if h h1 h2) (by cases b <;> rfl)
theorem ev_ifB {i j : Bool} (h : EB K t δ b) (h1 : b = true → EV K ta δ (.d (.bl i))) (h2 : b = false → EV K tb δ (.d (.bl j))) : EV K (tIf t ta tb) δ (.d (.bl (if b = true then i else j))) := ev_is (ev_if h h1 h2) (by cases b <;> rfl)
theorem ev_ifS {i j : Str} (h : EB K t δ b) (h1 : b = true → EV K ta δ (.d (.str i))) (h2 : b = false → EV K tb δ (.d (.str j))) : EV K (tIf t ta tb) δ (.d (.str (if b = true then i else j))) := ev_is (ev_if h h1 h2) (by cases b <;> rfl)
theorem ev_ifD {x y : D} (h : EB K t δ b) (h1 : b = true → EV K ta δ (.d x)) (h2 : b = false → EV K tb δ (.d y)) : EV K (tIf t ta tb) δ (.d (if b = true then x else y)) := ev_is (ev_if h h1 h2) (by cases b <;> rfl)
theorem ev_ifT (h : EB K t δ true) (h1 : EV K ta δ s) : EV K (tIf t ta tb) δ s := ev_if1 h (fun _ => h1) fun z => nomatch z
theorem ev_ifF (h : EB K t δ false) (h1 : EV K tb δ s) : EV K (tIf t ta tb) δ s := ev_if1 h (fun z => nomatch z) fun _ => h1

theorem RpL.cut {G : Hp} {xs : List D} {vs : List V} (r : RpL K G xs vs) (lo hi : Option Int) : RpL K G ((xs.drop (HT.sIx xs.length 0 lo)).take (HT.sIx xs.length xs.length hi - HT.sIx xs.length 0 lo)) (cutV vs lo hi) := by
  unfold cutV
  rw [r.length]
  exact (r.drop _).take _
def cutD (xs : List D) (lo hi : Option Int) : List D := (xs.drop (HT.sIx xs.length 0 lo)).take (HT.sIx xs.length xs.length hi - HT.sIx xs.length 0 lo)
def EO (K : PySem.W.Frag) (to : TO) (δ : List S) (o : Option Int) : Prop := ∀ (He Ge H : Hp) (τo : L2.St) (τs : List S) (σ : L2.St), τo.length = τs.length → OK K He Ge H (τo ++ σ) (τs ++ δ) →
  ∀ Q : Option Int → Hp → Prop, (∀ H', OK K He Ge H' (τo ++ σ) (τs ++ δ) → Q o H') → to σ H Q
theorem eo_none : EO K tNoPart δ none := fun He Ge H τo τs σ hl ok Q q => q H ok
theorem eo_some {i : Int} (h : EV K te δ (.d (.int i))) : EO K (tPart te) δ (some i) := by
  intro He Ge H τo τs σ hl ok Q q
  refine h He Ge H τo τs σ hl ok _ fun v H1 ⟨G, ok1⟩ => ?_
  obtain ⟨_, e, r⟩ := ok1.top
  cases e; cases r
  exact ⟨i, rfl, q H1 ⟨G, ok1.pop⟩⟩
variable {tl th : TO} {lo hi : Option Int}
theorem ev_slG {r : V → Option Int → Option Int → Hp → VK → Prop} (h : EV K te δ (.d x)) (h1 : EO K tl δ lo) (h2 : EO K th δ hi)
    (hr : ∀ (He Ge H G : Hp) (σ : L2.St) (δ : List S) (v : V), OKG K He Ge H G σ δ → Rp K G x v → ∀ Q : VK, (∀ z H', OK K He Ge H' (some z :: σ) (s :: δ) → Q z H') → r v lo hi H Q) : EV K (tSl r te tl th) δ s := by
  intro He Ge H τo τs σ hl ok Q q
  refine h He Ge H τo τs σ hl ok _ fun v H1 ok1 => ?_
  refine h1 He Ge H1 (some v :: τo) (.d x :: τs) σ (by simp [hl]) ok1 _ fun H2 ok2 => ?_
  refine h2 He Ge H2 (some v :: τo) (.d x :: τs) σ (by simp [hl]) ok2 _ fun H3 ⟨G, ok3⟩ => ?_
  obtain ⟨_, e, rr⟩ := ok3.top
  cases e
  exact hr He Ge H3 G _ _ v ok3.pop rr Q q
theorem ev_slL (h : EV K te δ (.d (.lst xs))) (h1 : EO K tl δ lo) (h2 : EO K th δ hi) : EV K (tSl (rSlU K) te tl th) δ (.own (cutD xs lo hi)) := ev_slG h h1 h2 fun He Ge H G σ δ v ok r Q q => by
  cases r with
  | lst hh rr => exact .inl ⟨_, _, rfl, SqL.of (ok.gh _ _ hh), fun p hp => q _ _ (doneL ok hp (rr.cut lo hi))⟩
theorem ev_slT (h : EV K te δ (.d (.tup xs))) (h1 : EO K tl δ lo) (h2 : EO K th δ hi) : EV K (tSl (rSlU K) te tl th) δ (.d (.tup (cutD xs lo hi))) := ev_slG h h1 h2 fun He Ge H G σ δ v ok r Q q => by
  cases r with
  | tup hh rr =>
    refine .inr (.inl ⟨_, _, rfl, ok.gh.t hh.t, fun ⟨e1, e2⟩ => ?_, fun _ p o hp hc hd => q _ _ (doneT ok hp hc hd (rr.cut lo hi))⟩)
    rw [← rr.length] at e1 e2
    have e : cutD xs lo hi = xs := by unfold cutD; rw [e1, e2, List.drop_zero, Nat.sub_zero, List.take_length]
    rw [e] at q
    exact q _ _ (done ok (.tup hh rr))
theorem ev_slS {z : Str} (h : EV K te δ (.d (.str z))) (h1 : EO K tl δ lo) (h2 : EO K th δ hi) (hz : z.length ≤ sizeLine) : EV K (tSl (rSlU K) te tl th) δ (.d (.str (cutS z lo hi))) := ev_slG h h1 h2 fun He Ge H G σ δ v ok r Q q => by
  cases r
  exact .inr (.inr ⟨z, rfl, hz, q _ _ (done ok .str)⟩)
end
end Far
namespace Far
open PySem L2
/-! which built-in kind a value is of -/
@[simp] theorem isTy_non_int : isTy .non "int" = false := by show (kitB "NoneType" "int").getD false = false; decide +kernel
@[simp] theorem isTy_non_bool : isTy .non "bool" = false := by show (kitB "NoneType" "bool").getD false = false; decide +kernel
@[simp] theorem isTy_non_tuple : isTy .non "tuple" = false := by show (kitB "NoneType" "tuple").getD false = false; decide +kernel
@[simp] theorem isTy_non_list : isTy .non "list" = false := by show (kitB "NoneType" "list").getD false = false; decide +kernel
@[simp] theorem isTy_non_str : isTy .non "str" = false := by show (kitB "NoneType" "str").getD false = false; decide +kernel
@[simp] theorem isTy_bl_int {b : Bool} : isTy (.bl b) "int" = true := by show (kitB "bool" "int").getD false = true; decide +kernel
@[simp] theorem isTy_bl_bool {b : Bool} : isTy (.bl b) "bool" = true := by show (kitB "bool" "bool").getD false = true; decide +kernel
@[simp] theorem isTy_bl_tuple {b : Bool} : isTy (.bl b) "tuple" = false := by show (kitB "bool" "tuple").getD false = false; decide +kernel
@[simp] theorem isTy_bl_list {b : Bool} : isTy (.bl b) "list" = false := by show (kitB "bool" "list").getD false = false; decide +kernel
@[simp] theorem isTy_bl_str {b : Bool} : isTy (.bl b) "str" = false := by show (kitB "bool" "str").getD false = false; decide +kernel
@[simp] theorem isTy_int_int {i : Int} : isTy (.int i) "int" = true := by show (kitB "int" "int").getD false = true; decide +kernel
@[simp] theorem isTy_int_bool {i : Int} : isTy (.int i) "bool" = false := by show (kitB "int" "bool").getD false = false; decide +kernel
@[simp] theorem isTy_int_tuple {i : Int} : isTy (.int i) "tuple" = false := by show (kitB "int" "tuple").getD false = false; decide +kernel
@[simp] theorem isTy_int_list {i : Int} : isTy (.int i) "list" = false := by show (kitB "int" "list").getD false = false; decide +kernel
@[simp] theorem isTy_int_str {i : Int} : isTy (.int i) "str" = false := by show (kitB "int" "str").getD false = false; decide +kernel
@[simp] theorem isTy_str_int {x : Str} : isTy (.str x) "int" = false := by show (kitB "str" "int").getD false = false; decide +kernel
@[simp] theorem isTy_str_bool {x : Str} : isTy (.str x) "bool" = false := by show (kitB "str" "bool").getD false = false; decide +kernel
@[simp] theorem isTy_str_tuple {x : Str} : isTy (.str x) "tuple" = false := by show (kitB "str" "tuple").getD false = false; decide +kernel
@[simp] theorem isTy_str_list {x : Str} : isTy (.str x) "list" = false := by show (kitB "str" "list").getD false = false; decide +kernel
@[simp] theorem isTy_str_str {x : Str} : isTy (.str x) "str" = true := by show (kitB "str" "str").getD false = true; decide +kernel
@[simp] theorem isTy_tup_int {xs : List D} : isTy (.tup xs) "int" = false := by show (kitB "tuple" "int").getD false = false; decide +kernel
@[simp] theorem isTy_tup_bool {xs : List D} : isTy (.tup xs) "bool" = false := by show (kitB "tuple" "bool").getD false = false; decide +kernel
@[simp] theorem isTy_tup_tuple {xs : List D} : isTy (.tup xs) "tuple" = true := by show (kitB "tuple" "tuple").getD false = true; decide +kernel
@[simp] theorem isTy_tup_list {xs : List D} : isTy (.tup xs) "list" = false := by show (kitB "tuple" "list").getD false = false; decide +kernel
@[simp] theorem isTy_tup_str {xs : List D} : isTy (.tup xs) "str" = false := by show (kitB "tuple" "str").getD false = false; decide +kernel
@[simp] theorem isTy_lst_int {xs : List D} : isTy (.lst xs) "int" = false := by show (kitB "list" "int").getD false = false; decide +kernel
@[simp] theorem isTy_lst_bool {xs : List D} : isTy (.lst xs) "bool" = false := by show (kitB "list" "bool").getD false = false; decide +kernel
@[simp] theorem isTy_lst_tuple {xs : List D} : isTy (.lst xs) "tuple" = false := by show (kitB "list" "tuple").getD false = false; decide +kernel
@[simp] theorem isTy_lst_list {xs : List D} : isTy (.lst xs) "list" = true := by show (kitB "list" "list").getD false = true; decide +kernel
@[simp] theorem isTy_lst_str {xs : List D} : isTy (.lst xs) "str" = false := by show (kitB "list" "str").getD false = false; decide +kernel
theorem isTy_dK_int {kvs : List (Key × D)} : isTy (.dK kvs) "int" = false := by show (kitB "dict" "int").getD false = false; decide +kernel
theorem isTy_dK_bool {kvs : List (Key × D)} : isTy (.dK kvs) "bool" = false := by show (kitB "dict" "bool").getD false = false; decide +kernel
theorem isTy_dK_tuple {kvs : List (Key × D)} : isTy (.dK kvs) "tuple" = false := by show (kitB "dict" "tuple").getD false = false; decide +kernel
theorem isTy_dK_list {kvs : List (Key × D)} : isTy (.dK kvs) "list" = false := by show (kitB "dict" "list").getD false = false; decide +kernel
theorem isTy_dK_str {kvs : List (Key × D)} : isTy (.dK kvs) "str" = false := by show (kitB "dict" "str").getD false = false; decide +kernel
theorem tyN_mem {x : D} (h : known x = true) : tyN x ∈ ["NoneType", "bool", "int", "str", "tuple", "list", "dict"] := by
  cases x <;> first | (simp [known] at h; done) | (simp [tyN])
theorem kit_all : ∀ t ∈ ["NoneType", "bool", "int", "str", "tuple", "list", "dict"], ∀ n ∈ ["int", "bool", "tuple", "list", "str"], (kitB t n).isSome = true := by decide +kernel
theorem kit_any {x : D} {n : String} (h : known x = true) (hn : n ∈ ["int", "bool", "tuple", "list", "str"]) : (kitB (tyN x) n).isSome = true := kit_all _ (tyN_mem h) _ hn
theorem isTy_tuple {x : D} (h : isTy x "tuple" = true) (hk : known x = true) : ∃ xs, x = .tup xs := by
  cases x <;> first | (simp [known] at hk; done) | exact ⟨_, rfl⟩ | (first | rw [isTy_non_tuple] at h | rw [isTy_bl_tuple] at h | rw [isTy_int_tuple] at h | rw [isTy_str_tuple] at h | rw [isTy_lst_tuple] at h | rw [isTy_dK_tuple] at h); cases h
theorem cdiv_small {i j : Int} (h : 0 < j) (h2 : j < 1073741824) : CDivW i j := wide_div (b := 30) h (by rw [show (2:Nat)^30 = 1073741824 from by decide]; omega) (by decide) (by decide)
theorem sd_setD {K : PySem.W.Frag} {δ : List S} {te : TE} {x : D} {E : WX} {N B C : List S → Prop} {R : S → List S → Prop} {X : List S → Addr → List (Str × D) → Prop} {i : Nat} (h : EV K te δ (.d x)) (hi : i < δ.length) (n : N (δ.set i (.d x))) : SD K E (tAsg te (gName i)) δ N R B C X := sd_set h hi n
theorem known_get {xs : List D} {x : D} (h : xs.all known = true) (hx : x ∈ xs) : known x = true := List.all_eq_true.mp h x hx
theorem all_id {α : Type} (f : α → Bool) (l : List α) : (l.map f).all id = l.all f := by simp
section
variable {K : PySem.W.Frag} {δ : List S} {te : TE} {wi : TI} {g : TG} {tt : TT} {vs : List Nat}
theorem eb_yes : EB K tYes δ true := fun He Ge H τo τs σ hl ok Q q => q H ok
/-- [e for .. in ..], no test; the items told as h of something -/
theorem ev_lc1 {α : Type} {ys : List α} {h f : α → D} (hi : EI K wi δ (ys.map h)) (hg : GOk g vs) (hz : ys.length ≤ sizeLine) (k : ∀ y ∈ ys, ∃ δ2, ET K g (hide δ vs) (h y) δ2 ∧ EV K te δ2 (.d (f y))) : EV K (tLc wi g tYes te vs) δ (.own (ys.map f)) := by
  have z := ev_lc (p := fun _ => true) hi hg hz (fun y hy => by
    obtain ⟨δ2, k1, k2⟩ := k y hy
    exact ⟨δ2, k1, eb_yes, fun _ => k2⟩)
  rwa [List.filter_eq_self.mpr (fun _ _ => rfl)] at z
theorem ev_lcD {ys : List D} {f : D → D} (hi : EI K wi δ ys) (hg : GOk g vs) (hz : ys.length ≤ sizeLine) (k : ∀ y ∈ ys, ∃ δ2, ET K g (hide δ vs) y δ2 ∧ EV K te δ2 (.d (f y))) : EV K (tLc wi g tYes te vs) δ (.own (ys.map f)) :=
  ev_lc1 (h := id) (ei_is hi (List.map_id _).symm) hg hz k
theorem ev_lcF {ys : List D} {p : D → Bool} {f : D → D} (hi : EI K wi δ ys) (hg : GOk g vs) (hz : ys.length ≤ sizeLine) (k : ∀ y ∈ ys, ∃ δ2, ET K g (hide δ vs) y δ2 ∧ EB K tt δ2 (p y) ∧ (p y = true → EV K te δ2 (.d (f y)))) : EV K (tLc wi g tt te vs) δ (.own ((ys.filter p).map f)) :=
  ev_lc (h := id) (ei_is hi (List.map_id _).symm) hg hz k
theorem ev_all {α : Type} {ys : List α} {h : α → D} {b : α → Bool} (hi : EI K wi δ (ys.map h)) (hg : GOk g vs) (hz : ys.length ≤ sizeLine) (k : ∀ y ∈ ys, ∃ δ2, ET K g (hide δ vs) (h y) δ2 ∧ EV K te δ2 (.d (.bl (b y)))) : EV K (tCB (rAll K) (tCons (tLc wi g tYes te vs) tNil)) δ (.d (.bl (ys.all b))) := by
  have e : (ys.map fun y => D.bl (b y)) = (ys.map b).map D.bl := by rw [List.map_map]; rfl
  have z := ev_frz (ev_lc1 hi hg hz k)
  rw [e] at z
  have := ev_cb (ea_cons z ea_nil) all_bls
  rwa [all_id] at this
theorem ev_allD {ys : List D} {b : D → Bool} (hi : EI K wi δ ys) (hg : GOk g vs) (hz : ys.length ≤ sizeLine) (k : ∀ y ∈ ys, ∃ δ2, ET K g (hide δ vs) y δ2 ∧ EV K te δ2 (.d (.bl (b y)))) : EV K (tCB (rAll K) (tCons (tLc wi g tYes te vs) tNil)) δ (.d (.bl (ys.all b))) :=
  ev_all (h := id) (ei_is hi (List.map_id _).symm) hg hz k
/-- short ways, where the left side is known -/
theorem ev_orB1 {ta tb : TE} {a : Bool} (h : EV K ta δ (.d (.bl a))) (e : a = true) : EV K (tOrT K ta tb) δ (.d (.bl true)) := by
  subst e; exact ev_is (ev_orB (b := false) h fun z => nomatch z) rfl
theorem ev_orB0 {ta tb : TE} {a : Bool} {s : S} (h : EV K ta δ (.d (.bl a))) (e : a = false) (h2 : EV K tb δ s) : EV K (tOrT K ta tb) δ s := by
  subst e; exact ev_is (ev_orT h (.bl _) fun _ => h2) rfl
theorem ev_andB1 {ta tb : TE} {a : Bool} (h : EV K ta δ (.d (.bl a))) (e : a = false) : EV K (tAndT K ta tb) δ (.d (.bl false)) := by
  subst e; exact ev_is (ev_andB (b := false) h fun z => nomatch z) rfl
theorem ev_andB0 {ta tb : TE} {a : Bool} {s : S} (h : EV K ta δ (.d (.bl a))) (e : a = true) (h2 : EV K tb δ s) : EV K (tAndT K ta tb) δ s := by
  subst e; exact ev_is (ev_andT h (.bl _) fun _ => h2) rfl
theorem eb_or1 {t u : TT} {a : Bool} (h : EB K t δ a) (e : a = true) : EB K (tOr t u) δ true := by subst e; exact eb_orT h
theorem eb_or0 {t u : TT} {a b : Bool} (h : EB K t δ a) (e : a = false) (h2 : EB K u δ b) : EB K (tOr t u) δ b := by subst e; exact eb_is (eb_or h fun _ => h2) rfl
theorem eb_and1 {t u : TT} {a : Bool} (h : EB K t δ a) (e : a = false) : EB K (tAnd t u) δ false := by subst e; exact eb_andF h
theorem eb_and0 {t u : TT} {a b : Bool} (h : EB K t δ a) (e : a = true) (h2 : EB K u δ b) : EB K (tAnd t u) δ b := by subst e; exact eb_is (eb_and h fun _ => h2) rfl
theorem ev_if1' {t : TT} {ta tb : TE} {a : Bool} {s : S} (h : EB K t δ a) (e : a = true) (h1 : EV K ta δ s) : EV K (tIf t ta tb) δ s := by subst e; exact ev_ifT h h1
theorem ev_if0' {t : TT} {ta tb : TE} {a : Bool} {s : S} (h : EB K t δ a) (e : a = false) (h1 : EV K tb δ s) : EV K (tIf t ta tb) δ s := by subst e; exact ev_ifF h h1
theorem sd_if1 {E : WX} {N B C : List S → Prop} {R : S → List S → Prop} {X : List S → Addr → List (Str × D) → Prop} {t u : TS} {c : TT} {a : Bool} (h : EB K c δ a) (e : a = true) (h1 : SD K E t δ N R B C X) : SD K E (tIfS c t u) δ N R B C X := by subst e; exact sd_if h (fun _ => h1) fun z => nomatch z
theorem sd_if0 {E : WX} {N B C : List S → Prop} {R : S → List S → Prop} {X : List S → Addr → List (Str × D) → Prop} {t u : TS} {c : TT} {a : Bool} (h : EB K c δ a) (e : a = false) (h1 : SD K E u δ N R B C X) : SD K E (tIfS c t u) δ N R B C X := by subst e; exact sd_if h (fun z => nomatch z) fun _ => h1
theorem sz {n : Nat} (h : n ≤ 16777216) : n ≤ sizeLine := by rw [sizeLine_eq]; exact h
/-- an item at a place that is not written -/
theorem atI_getD {α : Type} {xs : List α} {i : Int} {d : α} (h0 : 0 ≤ i) (h1 : i < xs.length) : L2.atI xs i = some (xs.getD i.toNat d) := by
  have h2 : i.toNat < xs.length := by omega
  have e : i = ((i.toNat : Nat) : Int) := by omega
  rw [e]
  refine L2.atI_nat ?_
  rw [Int.toNat_natCast, List.getElem?_eq_getElem h2, List.getD_eq_getElem?_getD, List.getElem?_eq_getElem h2]; rfl
/-- .. of a list of ints -/
theorem atI_ints {xs : List Int} {i : Int} (h0 : 0 ≤ i) (h1 : i < xs.length) : L2.atI (xs.map D.int) i = some (.int (xs.getD i.toNat 0)) := by
  rw [atI_getD (d := D.int 0) h0 (by rw [List.length_map]; exact h1)]
  congr 1
  rw [List.getD_eq_getElem?_getD, List.getElem?_map, List.getD_eq_getElem?_getD]
  cases xs[i.toNat]? <;> rfl
mutual
theorem pur_lay : ∀ {x : D}, pur x = true → (pd x).canLay0 = true
  | .non, _ => by simp [pd, PyData.canLay0]
  | .bl _, _ => by simp [pd, PyData.canLay0]
  | .int _, _ => by simp [pd, PyData.canLay0]
  | .str _, h => by simpa [pd, PyData.canLay0, pur] using h
  | .tup xs, h => by simp only [pd, PyData.canLay0]; exact purL_lay (by simpa [pur] using h)
  | .lst xs, h => by simp only [pd, PyData.canLay0]; exact purL_lay (by simpa [pur] using h)
  | .scr xs, h => by simp only [pd, PyData.canLay0]; exact purL_lay (by simpa [pur] using h)
  | .ty _, h => by simp [pur] at h
  | .cls _, h => by simp [pur] at h
  | .ins _ _, h => by simp [pur] at h
  | .dK _, h => by simp [pur] at h
theorem purL_lay : ∀ {xs : List D}, purL xs = true → PyData.canLayAll0 (pdL xs) = true
  | [], _ => by simp [pdL, PyData.canLayAll0]
  | x :: xs, h => by
    simp only [purL, Bool.and_eq_true] at h
    simp only [pdL, PyData.canLayAll0, Bool.and_eq_true]
    exact ⟨pur_lay h.1, purL_lay h.2⟩
end
theorem shaped_of {x : D} (h : pur x = true) (hd : (pd x).depth ≤ 64) : SeqAt.shaped (pd x) = true := by
  unfold SeqAt.shaped; rw [pur_lay h]; simpa using hd
def eqD (x y : D) : Bool := PyData.eqv (pd x) (pd y)
theorem eq_D {x y : D} (p1 : pur x = true) (p2 : pur y = true) (h1 : (pd x).depth ≤ 64) (h2 : (pd y).depth ≤ 64) : RV2 K (rEqU K) x y (.d (.bl (eqD x y))) := eq_dat p1 p2 (shaped_of p1 h1) (shaped_of p2 h2)
theorem ne_D {x y : D} (p1 : pur x = true) (p2 : pur y = true) (h1 : (pd x).depth ≤ 64) (h2 : (pd y).depth ≤ 64) : RV2 K (rNeU K) x y (.d (.bl (!eqD x y))) := ne_dat p1 p2 (shaped_of p1 h1) (shaped_of p2 h2)
theorem pur_ints : ∀ ns : List Int, purL (ns.map D.int) = true
  | [] => rfl
  | n :: r => by simp [purL, pur, pur_ints r]
theorem depth_intsD : ∀ ns : List Int, PyData.depthAll (pdL (ns.map D.int)) = 0
  | [] => by simp [pdL, PyData.depthAll]
  | n :: r => by simp [pdL, pd, PyData.depthAll, PyData.depth, depth_intsD r]
theorem eqv_nil (xs : List D) : PyData.eqvAll (pdL xs) [] = xs.isEmpty := by cases xs <;> simp [pdL, PyData.eqvAll]
theorem ne_scr_nil {ns : List Int} : RV2 K (rNeU K) (.scr (ns.map .int)) (.lst []) (.d (.bl (!ns.isEmpty))) := by
  have z := ne_D (K := K) (x := .scr (ns.map .int)) (y := .lst []) (by simp [pur, pur_ints]) rfl (by simp [pd, PyData.depth, depth_intsD]) (by simp [pd, pdL, PyData.depth, PyData.depthAll])
  have e : eqD (.scr (ns.map .int)) (.lst []) = ns.isEmpty := by
    simp only [eqD, pd, pdL, PyData.eqv]
    rw [eqv_nil]; cases ns <;> rfl
  rwa [e] at z
theorem weak_refl {δ : List S} : weak δ δ := fun i s h => .inl h
theorem weak_of {δ δ' : List S} (h : δ = δ') : weak δ δ' := h ▸ weak_refl
/-- slot by slot -/
inductive WK : List S → List S → Prop
  | nil : WK [] []
  | same {s : S} {r t : List S} : WK r t → WK (s :: r) (s :: t)
  | un {s : S} {r t : List S} : WK r t → WK (s :: r) (.un :: t)
theorem weak_cons {s t : S} {a b : List S} (h : s = t ∨ t = .un) (r : weak a b) : weak (s :: a) (t :: b) := fun i u e => by
  cases i with
  | zero =>
    simp at e
    rcases h with rfl | rfl
    · exact .inl (by simp [e])
    · exact .inr ⟨e.symm, s, rfl⟩
  | succ i =>
    simp at e
    rcases r i u e with q | ⟨q1, t, q2⟩
    · exact .inl (by simpa using q)
    · exact .inr ⟨q1, t, by simpa using q2⟩
theorem WK.weak : ∀ {a b : List S}, WK a b → Far.weak a b
  | _, _, .nil => weak_refl
  | _, _, .same r => weak_cons (.inl rfl) (WK.weak r)
  | _, _, .un r => weak_cons (.inr rfl) (WK.weak r)
variable {E : WX} {N B C : List S → Prop} {R : S → List S → Prop} {X : List S → Addr → List (Str × D) → Prop} {tb : TS}
theorem rg0 (n : Nat) : rg 0 n = (List.range n).map fun (i : Nat) => D.int (i : Int) := by
  unfold rg; congr 1; funext i; rw [Int.zero_add]
theorem range_get {n i y : Nat} (h : (List.range n)[i]? = some y) : i < n ∧ y = i := by
  obtain ⟨q, e⟩ := List.getElem?_eq_some_iff.mp h
  simp at q e; exact ⟨q, e.symm⟩
/-- for k in range(n) -/
theorem sd_rng1 {n : Int} {tr : TA} (he : EA K tr δ [.int n]) (h1 : -(2 ^ 62) ≤ n) (h2 : n < 2 ^ 62) (I : Nat → List S) (h0 : weak δ (I 0))
    (k : ∀ i : Nat, (i : Int) < n → ∃ δ2, ET K g (I i) (.int (i : Int)) δ2 ∧ SD K E tb δ2 (fun δ' => weak δ' (I (i + 1))) R N (fun δ' => weak δ' (I (i + 1))) X) (hd : N (I n.toNat)) : SD K E (tFor (iRngU1 tr) g tb) δ N R B C X := by
  refine sd_for (ys := List.range n.toNat) (h := fun (i : Nat) => D.int (i : Int)) (ei_is (ei_rngU1 he h1 h2) (rg0 _)) I h0 (fun i y hy => ?_) (by rw [List.length_range]; exact hd)
  obtain ⟨q, rfl⟩ := range_get hy
  exact k y (by omega)
/-- for k in range(m, n) -/
theorem sd_rng2 {m n : Int} {tr : TA} (he : EA K tr δ [.int m, .int n]) (h1 : -(2 ^ 62) ≤ m ∧ m < 2 ^ 62 ∧ -(2 ^ 62) ≤ n ∧ n < 2 ^ 62) (I : Nat → List S) (h0 : weak δ (I 0))
    (k : ∀ i : Nat, m + (i : Int) < n → ∃ δ2, ET K g (I i) (.int (m + (i : Int))) δ2 ∧ SD K E tb δ2 (fun δ' => weak δ' (I (i + 1))) R N (fun δ' => weak δ' (I (i + 1))) X) (hd : N (I (n - m).toNat)) : SD K E (tFor (iRngU2 tr) g tb) δ N R B C X := by
  refine sd_for (ys := List.range (n - m).toNat) (h := fun (i : Nat) => D.int (m + (i : Int))) (ei_rngU2 he h1) I h0 (fun i y hy => ?_) (by rw [List.length_range]; exact hd)
  obtain ⟨q, rfl⟩ := range_get hy
  exact k y (by omega)
/-- for x in xs -/
theorem sd_forD {ys : List D} (hi : EI K wi δ ys) (I : Nat → List S) (h0 : weak δ (I 0))
    (k : ∀ i y, ys[i]? = some y → ∃ δ2, ET K g (I i) y δ2 ∧ SD K E tb δ2 (fun δ' => weak δ' (I (i + 1))) R N (fun δ' => weak δ' (I (i + 1))) X) (hd : N (I ys.length)) : SD K E (tFor wi g tb) δ N R B C X :=
  sd_for (h := id) (ei_is hi (List.map_id _).symm) I h0 k hd
/-- [e for k in range(n)] -/
theorem ev_lcR1 {n : Int} {tr : TA} {f : Nat → D} (he : EA K tr δ [.int n]) (h1 : -(2 ^ 62) ≤ n) (h2 : n < 2 ^ 62) (hz : n.toNat ≤ sizeLine) (hg : GOk g vs) (k : ∀ i : Nat, (i : Int) < n → ∃ δ2, ET K g (hide δ vs) (.int (i : Int)) δ2 ∧ EV K te δ2 (.d (f i))) : EV K (tLc (iRngU1 tr) g tYes te vs) δ (.own ((List.range n.toNat).map f)) :=
  ev_lc1 (h := fun (i : Nat) => D.int (i : Int)) (ei_is (ei_rngU1 he h1 h2) (rg0 _)) hg (by rw [List.length_range]; exact hz) fun y hy => k y (by have := List.mem_range.mp hy; omega)
theorem ev_lcR2 {m n : Int} {tr : TA} {f : Nat → D} (he : EA K tr δ [.int m, .int n]) (h1 : -(2 ^ 62) ≤ m ∧ m < 2 ^ 62 ∧ -(2 ^ 62) ≤ n ∧ n < 2 ^ 62) (hz : (n - m).toNat ≤ sizeLine) (hg : GOk g vs) (k : ∀ i : Nat, m + (i : Int) < n → ∃ δ2, ET K g (hide δ vs) (.int (m + (i : Int))) δ2 ∧ EV K te δ2 (.d (f i))) : EV K (tLc (iRngU2 tr) g tYes te vs) δ (.own ((List.range (n - m).toNat).map f)) :=
  ev_lc1 (h := fun (i : Nat) => D.int (m + (i : Int))) (ei_rngU2 he h1) hg (by rw [List.length_range]; exact hz) fun y hy => k y (by have := List.mem_range.mp hy; omega)
theorem emod_in (c : Int) {m : Int} (h : 0 < m) : 0 ≤ c % m ∧ c % m < m := ⟨Int.emod_nonneg c (by omega), Int.emod_lt_of_pos c h⟩
theorem is_bl {a b : Bool} : RV2 K rIsB (.bl a) (.bl b) (.d (.bl (decide (a = b)))) := by
  intro He Ge H G σ δ v u ok rv ru Q q
  cases rv; cases ru
  exact ⟨a, b, rfl, rfl, q _ _ (done ok .bl)⟩
theorem not_bl {a b : Bool} : RV2 K rNotB (.bl a) (.bl b) (.d (.bl (!decide (a = b)))) := by
  intro He Ge H G σ δ v u ok rv ru Q q
  cases rv; cases ru
  exact ⟨a, b, rfl, rfl, q _ _ (done ok .bl)⟩
theorem op_isB1 {X : Cx} : OpR X (compareOp .Is) rIsB := op_is_bl
theorem op_notB1 {X : Cx} : OpR X (compareOp .IsNot) rNotB := op_isnot_bl
mutual
theorem eqv_self : ∀ {x : D}, pur x = true → PyData.eqv (pd x) (pd x) = true
  | .non, _ => by simp [pd, PyData.eqv]
  | .bl _, _ => by simp [pd, PyData.eqv]
  | .int _, _ => by simp [pd, PyData.eqv]
  | .str _, _ => by simp [pd, PyData.eqv]
  | .tup xs, h => by simp only [pd, PyData.eqv]; exact eqv_selfL (by simpa [pur] using h)
  | .lst xs, h => by simp only [pd, PyData.eqv]; exact eqv_selfL (by simpa [pur] using h)
  | .scr xs, h => by simp only [pd, PyData.eqv]; exact eqv_selfL (by simpa [pur] using h)
  | .ty _, h => by simp [pur] at h
  | .cls _, h => by simp [pur] at h
  | .ins _ _, h => by simp [pur] at h
  | .dK _, h => by simp [pur] at h
theorem eqv_selfL : ∀ {xs : List D}, purL xs = true → PyData.eqvAll (pdL xs) (pdL xs) = true
  | [], _ => by simp [pdL, PyData.eqvAll]
  | x :: xs, h => by
    simp only [purL, Bool.and_eq_true] at h
    simp only [pdL, PyData.eqvAll, Bool.and_eq_true]
    exact ⟨eqv_self h.1, eqv_selfL h.2⟩
end
theorem eqD_self {x : D} (h : pur x = true) : eqD x x = true := eqv_self h
end
end Far
/-! Exceptions kept behind their clause; calls that may let out; constructors; methods. -/
namespace Far
open PySem L2 PySem.Spec PyProof.Rows
/-- what 'except X as n: m = n' asks of an exception of the body (n in slot i, m in slot j): it is of that class; then it is kept -/
def wKeep (K : PySem.W.Frag) (c : Value) (i j : Nat) (D : Ends) : WX := fun cls d σ H =>
  PySem.W.exmOne K cls c = some true ∧ ∀ a, H a = none → D.nx (((σ.set i (some (.ref a))).set j (some (.ref a))).set i none) (upd H a (ExK cls d a))
def tTryK (K : PySem.W.Frag) (c : Value) (i j : Nat) (tb : WX → TS) : TS := fun D σ H => tb (wKeep K c i j D) D σ H
section
variable {X : Cx} {pins : List (Addr × Obj)} {σ : L2.St} {H : Hp} {s : Shared}
/-- an object that lies there already, of ours, is tracked from now on -/
theorem inv_track {a : Addr} {cls : Value} {d : Option Addr} {oe : Obj} {vs : Array Value} (I : Inv X pins σ H s) (hx : X.ex = []) (n0 : X.s_0.heap.get? a = none) (na : H a = none) (e : s.heap.get? a = some oe) (z : Zc cls d oe) (dd : oe.data = .fields vs)
    (nL : a ≠ X.env.locals) (nC : ∀ x c, X.env.cells.lookup x = some c → c ≠ a) (nP : ∀ p ∈ X.pn ++ pins, p.1 ≠ a) : Inv X pins σ (upd H a (ExK cls d a)) s := by
  have ne0 : ∀ b o, X.s_0.heap.get? b = some o → b ≠ a := fun b o q y => by rw [y, n0] at q; cases q
  have keepN : ∀ b, b ≠ a → H b = none → upd H a (ExK cls d a) b = none := fun b q n => by rw [upd_ne q]; exact n
  refine ⟨I.ok, I.os, I.bare, ⟨I.base.keep, I.base.slot, fun b o q n hq => keepN b (ne0 b o q) (I.base.free b o q n hq), I.base.there, fun b xs q => ?_, fun b o u q => ?_, fun b ps q => ?_⟩, I.loc, I.cell, keepN _ (Ne.symm nL) I.free, fun x c q => keepN c (nC x c q) (I.freeC x c q), fun p hp => ?_, fun b u q => ?_, I.len⟩
  · rw [upd_ne (ne_of_none (I.base.tups b xs q) na)]; exact I.base.tups b xs q
  · rw [upd_ne (ne_of_none (I.base.frzs b o u q) na)]; exact I.base.frzs b o u q
  · obtain ⟨m, q2⟩ := I.base.tbls b ps q
    exact ⟨m, by rw [upd_ne (ne_of_none q2 na)]; exact q2⟩
  · obtain ⟨e1, n, ne, nf, d1⟩ := I.pin p hp
    exact ⟨e1, keepN _ (nP p hp) n, ne, nf, d1⟩
  · by_cases hb : b = a
    · subst hb
      rw [upd_same] at q
      cases q
      exact ⟨⟨oe, vs, e, z, dd⟩, ⟨oe, e⟩, fun _ _ ⟨o, v, q1, r⟩ k => ⟨o, v, k o q1, r⟩⟩
    · rw [upd_ne hb] at q
      exact (I.hok b u q).stay (fun c v _ q => q) (fun c q => by rw [upd_ne (ne_of_none q na)]; exact q) fun c xs q => by rw [upd_ne (ne_of_none q na)]; exact q
end
section
variable {X : Cx} {x n m : Str} {c : Value} {i j : Nat} {body : List Stmt} {np np2 mp ap pos pos' : Pos} {tb : WX → TS}
theorem ps_try_keep (hs : X.stack = X.env :: X.outer) (hf : X.env.frame = some X.env.locals) (hex : X.ex = []) (hN : X.N.Nodup) (hi : X.N[i]? = some n) (hj : X.N[j]? = some m) (hln : X.env.kindOf n = some .local) (hlm : Loc X.env.scope m) (hc : Names X x c)
    (hb : ∀ (W : WX) (pn : List (Addr × Obj)) (xe : Value → Shared → Prop), Takes (X.tr pn xe) W → PassesOwn (model X.prog X.w) X.A X.env xe → PSs (X.tr pn xe) body (tb W))
    (hsu : ∀ (a : Addr) (oe : Obj) (pn : List (Addr × Obj)), PSs (X.suite a ((a, oe) :: pn)) [.Assign [.Name m mp] (.Name n np2) ap] (tAsg (tVar i) (gName j))) :
    PS X (.Try body [.ExceptHandler (some (.Name x np)) (some n) [.Assign [.Name m mp] (.Name n np2) ap] pos'] [] [] pos) (tTryK X.K c i j tb) := by
  refine ⟨fun pins s σ H D I h => ?_⟩
  have ok := I.ok
  have hfr : X.A.frames = some (X.env :: X.outer) := by rw [ok.frames, hs]
  have hloc : Loc X.env.scope n := .inl hln
  refine wpAny_Try_except ?_
  refine wpAny_mono ((hb (wKeep X.K c i j D) (X.pn ++ pins) (fun e s₁ => wpAny (model X.prog X.w) X.A (noteFrame e X.env) (fun _ s₂ => wpAny (model X.prog X.w) X.A (setFlight e none) (fun _ s₃ =>
    wpAny (model X.prog X.w) X.A (handleBy e X.env [.ExceptHandler (some (.Name x np)) (some n) [.Assign [.Name m mp] (.Name n np2) ap] pos']) (SP X pins D) X.xe s₃) X.xe s₂) X.xe s₁) (fun u s' xx => ?_) PassesOwn.looking).run [] s σ H D (I.toTry _) h) (fun f s1 hsp => ?_) (fun e s1 he => he)
  · obtain ⟨a, B, sI, pins', σ', H', cls, d, rfl, J', nb, up, sky, na, os, ag, hb1, hyes⟩ := xx
    have J : Inv X pins σ' H' sI := J'.ofTry ok
    have sky' : Sky B (X.env :: X.outer) a (Zc cls d) X.env.locals s'.heap := by rw [← hs]; exact sky
    show wpAny (model X.prog X.w) X.A (noteFrame (.ref a) X.env) _ _ _
    refine Sky.land Zc.steady hfr hf sky' fun h3 fl3 up3 => ?_
    have J3 : Inv X pins σ' H' { s' with heap := h3 } := J.landed nb fl3.1 (up.trans up3) os ag
    obtain ⟨oe3, vs3, he3, hz3, hd3⟩ := fl3.there
    have nfr : a ∉ frs (X.env :: X.outer) := fun hm => by
      obtain ⟨_, o', e', hnf⟩ := fl3.2.2.1.mem hm
      rw [he3] at e'; cases e'
      exact hnf _ hd3
    have nL : a ≠ X.env.locals := fun z => nfr (List.mem_filterMap.mpr ⟨X.env, List.mem_cons_self, by rw [hf, z]⟩)
    have nF : a ∉ X.fs := fun hm => by
      obtain ⟨e, he, q⟩ := List.mem_filterMap.mp hm
      exact nfr (List.mem_filterMap.mpr ⟨e, List.mem_cons_of_mem _ he, q⟩)
    have nI : sI.heap.get? a = none := by
      cases q : sI.heap.get? a with
      | none => rfl
      | some o =>
        have z := nb a o q (by rw [hs]; exact nfr)
        rw [fl3.2.1] at z; cases z
    have n0 : X.s_0.heap.get? a = none := by
      cases q : X.s_0.heap.get? a with
      | none => rfl
      | some o =>
        obtain ⟨o', z⟩ := J.base.there a o q (by rw [hex]; exact fun z => nomatch z)
        rw [nI] at z; cases z
    have nC : ∀ x c, X.env.cells.lookup x = some c → c ≠ a := fun x c e z => by
      obtain ⟨v, o, ho, _⟩ := J.cell x c e
      rw [z, nI] at ho; cases ho
    have nP : ∀ p ∈ X.pn ++ pins, p.1 ≠ a := fun p hp z => by
      obtain ⟨e, _⟩ := J.pin p hp
      rw [z, nI] at e; cases e
    have S3 := J3.suite he3 hd3 na nL nF
    refine wpAny_handleBy_cons (codeAny_handlers_test ?_) (by intro q; cases q)
    have LT : PySem.W.Looks (model X.prog X.w) h3 (typeOf (.ref a)) cls := fun A Q E s k q => wpAny_typeOf_ref (k _ _ he3) (by rw [hz3.1]; exact q)
    have LM := PySem.W.exm_one (M := model X.prog X.w) (J3.kIn) LT hb1
    have test : ∀ {Q : Value → Shared → Prop} {E : Value → Shared → Prop}, Q c { s' with heap := h3 } → wpAny (model X.prog X.w) (X.A.mark (some (.ref a))) (eval (.Name x np) X.env) Q E { s' with heap := h3 } := fun {Q E} q => by
      obtain ⟨hg, hdbg, hm | ⟨hm, hv, hnn⟩⟩ := hc
      · exact ld_glob (X := X.suite a ((a, oe3) :: (X.pn ++ pins))) S3 hg hm q hdbg
      · exact ld_blt (X := X.suite a ((a, oe3) :: (X.pn ++ pins))) S3 hg hm hv q hnn hdbg
    refine test (LM.here ?_)
    refine codeAny_handlers_suite_as ?_
    refine HandSPX.lands_againZ fl3 fun h4 fl4 up4 => ?_
    have J4 : Inv X pins σ' H' { s' with heap := h4 } := J.landed nb fl4.1 ((up.trans up3).trans up4) os ag
    obtain ⟨oe4, vs4, he4, hz4, hd4⟩ := fl4.there
    have S4 := J4.suite he4 hd4 na nL nF
    refine store_ok (X := X.suite a ((a, oe4) :: (X.pn ++ pins))) (v := .ref a) S4 hN hi hloc rfl (fun s5 S5 => ?_) (.inr hln)
    have hq := hyes a na
    have il : i < σ'.length := by rw [J.len]; exact (List.getElem?_eq_some_iff.mp hi).1
    have run := (hsu a oe4 (X.pn ++ pins)).run [] s5 (σ'.set i (some (.ref a))) H' { nx := fun σ' H1 => H1 = H' ∧ D.nx (σ'.set i none) (upd H' a (ExK cls d a)), rt := fun _ _ => False, bk := fun _ _ => False, ct := fun _ _ => False } S5
      ⟨.ref a, List.getElem?_set_self il, rfl, hq⟩
    refine wpAny_mono run (fun f s6 hsp => ?_) (fun _ _ z => False.elim z)
    cases f with
    | next =>
      obtain ⟨σ6, H6, S6, rfl, q6⟩ := hsp
      refine gone_ok (X := X.suite a ((a, oe4) :: (X.pn ++ pins))) S6 hN hi hln fun s7 S7 => ?_
      obtain ⟨e7, n7, _⟩ := S7.pin (a, oe4) (List.mem_append_left _ List.mem_cons_self)
      have J7 : Inv X pins (σ6.set i none) H6 s7 := S7.unsuite ok
      exact ⟨_, _, inv_track J7 hex n0 n7 e7 hz4 hd4 nL nC nP, q6⟩
    | brk => obtain ⟨_, _, _, z⟩ := hsp; exact z.elim
    | cont => obtain ⟨_, _, _, z⟩ := hsp; exact z.elim
    | ret u => obtain ⟨_, _, _, _, _, z⟩ := hsp; exact z.elim
  · cases f with
    | next =>
      obtain ⟨σ', H', J', q⟩ := hsp
      exact wpAny_execs_nil ⟨σ', H', J'.ofTry ok, q⟩
    | brk =>
      obtain ⟨σ', H', J', q⟩ := hsp
      exact ⟨σ', H', J'.ofTry ok, q⟩
    | cont =>
      obtain ⟨σ', H', J', q⟩ := hsp
      exact ⟨σ', H', J'.ofTry ok, q⟩
    | ret u =>
      obtain ⟨v, σ', H', J', r, q⟩ := hsp
      exact ⟨v, σ', H', J'.ofTry ok, r, q⟩
end
end Far
/-! Calls that may let out, told over data; constructors, methods, fields; raise, try; isinstance of all kinds. -/
namespace Far
open PySem L2 PySem.Spec PyProof.Rows
def tMakeS (C : Addr) (sp : Sp) (E : L2.St → XK) (t : TA) : TE := fun σ H Q => t σ H fun vs H1 => ∀ x dx, H1 x = none → H1 dx = none → dx ≠ x →
  sp (.ref x :: vs) (upd (upd H1 dx (.own x)) x (.ins C dx [])) (fun v H2 => v = .non ∧ Q (.ref x) H2) (E σ)
def tMethS (C : Addr) (m : Str) (sp : Sp) (E : L2.St → XK) (ta : TE) (t : TA) : TE := fun σ H Q => ta σ H fun x H1 => ∃ a dx fs, x = .ref a ∧ H1 a = some (.ins C dx fs) ∧ fs.lookup m = none ∧
  t σ H1 fun vs H2 => sp (x :: vs) H2 Q (E σ)
section
variable {X : Cx} {CX : CXT} {k : Nat} {f C : Addr} {fd : FuncData} {ps : List Str} {sp : Sp} {E : L2.St → XK} {x m : Str} {p pos apos : Pos} {e o : Expr} {es : List Expr} {ta : TE} {t : TA}
theorem passC {σ : L2.St} : PassesAt (L2.CX X.prog X.w) X σ E0 := fun pins H s e s' I c => passL pins σ H s e s' I c
theorem run_makeS {σ : L2.St} {pins : List (Addr × Obj)} {H : Hp} {s : Shared} {Q : VK} {us : List Value} {vs : List V} {E1 : XK} (M : Mk X.K C f) (F : FnOk X.prog X.w X.K X.mg X.base CX k f fd ps sp) (hr : Room (k + 1) X.A) (hb : Binds X.K fd ps [])
    (hx : PassesAt CX X σ E1) (I : Inv X pins σ H s) (r : Vals vs us)
    (h : ∀ x dx, H x = none → H dx = none → dx ≠ x → sp (.ref x :: vs) (upd (upd H dx (.own x)) x (.ins C dx [])) (fun v H2 => v = .non ∧ Q (.ref x) H2) E1) :
    wpAny (model X.prog X.w) X.A (call (.ref C) us) (EP X pins σ Q) X.xe s := by
  have hq := h (s.heap.objs.size + 1) s.heap.objs.size (I.hok.fresh (Nat.le_succ _)) (I.hok.fresh (Nat.le_refl _)) (Nat.ne_of_lt (Nat.lt_succ_self _))
  have I2 := Inv.made (C := C) I
  have r2 : Vals (V.ref (s.heap.objs.size + 1) :: vs) (Value.ref (s.heap.objs.size + 1) :: us) := .cons rfl r
  have hl : (Value.ref (s.heap.objs.size + 1) :: us).length = ps.length := by
    rw [← r2.length]; exact F.len _ _ _ _ hq
  have b := hb _ (Value.ref (s.heap.objs.size + 1) :: us) I2.kIn (by rw [List.append_nil]; exact hl)
  rw [List.append_nil] at b
  refine wpAny_call (make_map (f := f) I.kIn M.makes M.init (beq_iff_eq.mp M.fn) (codeAny_mono (F.run _ X.stack _ _ ⟨Value.ref (s.heap.objs.size + 1) :: us, []⟩ (Value.ref (s.heap.objs.size + 1) :: us) _ _ E1 (hr.make C us [])
    (I2.env0.make C us []) b r2 hq) fun r s' hq' => ?_))
  cases r with
  | error e => exact hx pins _ _ e s' I2 hq'
  | ok fl =>
    cases fl with
    | ret u =>
      obtain ⟨v, H', I3, rv, ev, q3⟩ := I2.after hq'
      subst ev
      exact ⟨rv, ⟨V.ref (s.heap.objs.size + 1), H', I3, rfl, q3⟩⟩
    | next => exact False.elim hq'
    | brk => exact False.elim hq'
    | cont => exact False.elim hq'
theorem pe_makeS (M : Mk X.K C f) (F : FnOk X.prog X.w X.K X.mg X.base CX k f fd ps sp) (hr : Room (k + 1) X.A) (hg : Gl X x) (hm : X.mg x = some (.ref C)) (hb : Binds X.K fd ps []) (hx : ∀ σ, PassesAt CX X σ (E σ))
    (ha : PA X (e :: es) t) (hdb : (x == ("__debug__" : Str)) = false := by decide) (he : starEach (e :: es) X.env = (false, eval e X.env) :: starEach es X.env := by rfl) (hpl : (backTo pos (starEach es X.env)).any (·.1) = false := by rfl) :
    PE X (.Call (.Name x p) (e :: es) [] pos) (tMakeS C sp E t) := by
  refine ⟨fun pins s σ H Q I h => ?_⟩
  refine wpAny_Call_Name_kw (ld_glob I hg hm ?_ hdb)
  refine PySem.W.callWith_K (h₀ := X.base) I.ok.mod.kin M.kp (thn (ha.run pos pins s σ H _ I h) fun us s1 ⟨vs, H1, I1, r, q⟩ => ⟨I1.kIn, ?_⟩) he hpl
  exact run_makeS M F hr hb (hx σ) I1 r q
theorem pe_methS {pl : Sem Bool} (he : PE X o ta) (c : Cls X.K C) (hm : Meth X.K C m f) (F : FnOk X.prog X.w X.K X.mg X.base CX k f fd ps sp) (hr : Room k X.A) (hb : Binds X.K fd ps []) (hx : ∀ σ, PassesAt CX X σ (E σ)) (ha : PA X (e :: es) t)
    (hst : starEach (e :: es) X.env = (false, eval e X.env) :: starEach es X.env := by rfl) (hpl : (backTo pos (starEach es X.env)).any (·.1) = false := by rfl)
    (ht : eval (.Call (.Attribute o m apos) (e :: es) [] pos) X.env = (do
      let ov ← eval o X.env
      standAt apos.atName
      let (f, first) ← holding [ov] (getMethod ov m pl)
      callWith pos f first (backTo pos (starEach (e :: es) X.env)) (backToKw pos (keywordEach [] X.env))) := by rfl) :
    PE X (.Call (.Attribute o m apos) (e :: es) [] pos) (tMethS C m sp E ta t) := by
  refine ⟨fun pins s σ H Q I h => ?_⟩
  refine PySem.W.methodCall_KW (pl := pl) (thn (he.run pins s σ H _ I h) fun u s1 ⟨x, H1, I1, rx, a, dx, fs, ex, ea, l, q⟩ => ?_) ht
  subst ex
  obtain rfl : u = Value.ref a := rx
  refine getmeth_ok I1 ea c hm l ?_
  refine PySem.W.callWith_K (first := [.ref a]) (h₀ := X.base) I.ok.mod.kin hm.kp (thn (ha.run pos pins s1 σ H1 _ I1 q) fun us s2 ⟨vs, H2, I2, r, q2⟩ => ⟨I2.kIn, ?_⟩) hst hpl
  exact run_fnS (us := .ref a :: us) (vs := .ref a :: vs) F hr hb (hx σ) I2 (.cons rfl r) q2
theorem pe_methS0 {pl : Sem Bool} (he : PE X o ta) (c : Cls X.K C) (hm : Meth X.K C m f) (F : FnOk X.prog X.w X.K X.mg X.base CX k f fd ps sp) (hr : Room k X.A) (hb : Binds X.K fd ps []) (hx : ∀ σ, PassesAt CX X σ (E σ))
    (ht : eval (.Call (.Attribute o m apos) [] [] pos) X.env = (do
      let ov ← eval o X.env
      standAt apos.atName
      let (f, first) ← holding [ov] (getMethod ov m pl)
      callWith pos f first (backTo pos (starEach [] X.env)) (backToKw pos (keywordEach [] X.env))) := by rfl) :
    PE X (.Call (.Attribute o m apos) [] [] pos) (tMethS C m sp E ta tNil) := by
  refine ⟨fun pins s σ H Q I h => ?_⟩
  refine PySem.W.methodCall_KW (pl := pl) (thn (he.run pins s σ H _ I h) fun u s1 ⟨x, H1, I1, rx, a, dx, fs, ex, ea, l, q⟩ => ?_) ht
  subst ex
  obtain rfl : u = Value.ref a := rx
  refine getmeth_ok I1 ea c hm l ?_
  exact PySem.W.callWith_K0 (first := [.ref a]) I1.kIn hm.kp (run_fnS (us := [.ref a]) (vs := [.ref a]) F hr hb (hx σ) I1 (.cons rfl .nil) q)
end
/-! ### the promise of an __init__ -/
/-- the heap without the new instance -/
def hid (H : Hp) (x dx : Addr) : Hp := fun b => if b = x ∨ b = dx then none else H b
theorem hid_ex {H : Hp} {x dx : Addr} : Ex (hid H x dx) H := .of fun a o e => by
  unfold hid at e
  split at e
  · cases e
  · exact e
theorem hid_tab {K : PySem.W.Frag} {H G : Hp} {x dx : Addr} (h : TabOk K (hid H x dx) G) : TabOk K H G := h.mono (fun P ps e => by
  unfold hid at e
  split at e
  · cases e
  · exact e) (.refl G)
theorem hid_new {H : Hp} {x dx : Addr} {o1 o2 : HO} (h1 : H x = none) (h2 : H dx = none) : hid (upd (upd H dx o1) x o2) x dx = H := by
  funext b
  unfold hid
  by_cases e : b = x ∨ b = dx
  · rw [if_pos e]; rcases e with rfl | rfl
    · exact h1.symm
    · exact h2.symm
  · rw [if_neg e]
    have e1 : b ≠ x := fun z => e (.inl z)
    have e2 : b ≠ dx := fun z => e (.inr z)
    rw [upd_ne e1, upd_ne e2]
def spI (K : PySem.W.Frag) (C : Addr) (R : List D → Out → Prop) : Sp := fun vs H Q E => ∃ G x dx us xs out, vs = .ref x :: us ∧ H x = some (.ins C dx []) ∧ H dx = some (.own x) ∧ dx ≠ x ∧ (Ex G (hid H x dx) ∧ TabOk K (hid H x dx) G) ∧ RpL K G xs us ∧ R xs out ∧
  (∀ fs G' H', out = .ret (.d (.ins C fs)) → Ex G G' → Ex G' H' → Ex (hid H x dx) H' → Nc K (hid H x dx) G H' G' → Rp K G' (.ins C fs) (.ref x) → Q .non H') ∧
  (∀ c fs cls d G' H', out = .exc c fs → Ex G G' → Ex G' H' → Ex (hid H x dx) H' → Nc K (hid H x dx) G H' G' → XOk K G' H' c fs cls d → E cls d H')
def SDefI (K : PySem.W.Frag) (E : WX) (x C : Addr) (t : TS) (δ : List S) (out : Out) : Prop := SD K E t δ (fun δ' => ∃ fs, δ'[0]? = some (.ob (some x) C fs) ∧ out = .ret (.d (.ins C fs))) (fun _ _ => False) NoS NoS (fun _ c fs => out = .exc c fs)
def slotsI (n : Nat) (x C : Addr) (xs : List D) : List S := .ob (some x) C [] :: slots (n - 1) xs
theorem ok_startH {K : PySem.W.Frag} {G He H : Hp} {n : Nat} {xs : List D} {vs : List V} (e : Ex G He) (eh : Ex He H) (t0 : TabOk K He G) (t1 : TabOk K H G) (r : RpL K G xs vs) : OKG K He G H G (vs.map some ++ List.replicate (n - vs.length) none) (slots n xs) := by
  refine ⟨.refl G, e.trans eh, eh, ⟨fun _ _ z => z, t0, t1⟩, fun i s h => ?_, fun i j s t p hij hi hj o1 => ?_⟩
  · unfold slots at h
    rcases Nat.lt_or_ge i xs.length with q | q
    · rw [List.getElem?_append_left (by simpa using q), List.getElem?_map] at h
      obtain ⟨x, ex, rfl⟩ := Option.map_eq_some_iff.mp h
      obtain ⟨v, ev, rv⟩ := r.get ex
      refine ⟨some v, ?_, v, rfl, rv⟩
      rw [List.getElem?_append_left (by rw [List.length_map, ← r.length]; exact q), List.getElem?_map, ev]; rfl
    · rw [List.getElem?_append_right (by simpa using q)] at h
      have hs : s = .un := List.eq_of_mem_replicate (List.mem_of_getElem? h)
      have hl := (List.getElem?_eq_some_iff.mp h).1
      rw [List.length_replicate, List.length_map] at hl
      subst hs
      refine ⟨none, ?_, trivial⟩
      rw [List.getElem?_append_right (by rw [List.length_map, ← r.length]; exact q), List.getElem?_replicate, if_pos (by rw [List.length_map, ← r.length]; exact hl)]
  · have : ∀ s ∈ slots n xs, owned s = false := fun s hs => by
      rcases List.mem_append.mp hs with z | z
      · obtain ⟨x, _, rfl⟩ := List.mem_map.mp z; rfl
      · rw [List.eq_of_mem_replicate z]; rfl
    rw [this s (List.mem_of_getElem? hi)] at o1; cases o1
theorem init_run {K : PySem.W.Frag} {C : Addr} {R : List D → Out → Prop} {N : List Str} {vs : List V} {H : Hp} {Q : VK} {E : XK} {t : TS} (hN : 0 < N.length) (h : spI K C R vs H Q E) (k : ∀ x xs out, R xs out → SDefI K (fun cls d _ H => E cls d H) x C t (slotsI N.length x C xs) out) : t { nx := fun _ H' => Q .non H', rt := Q } (L2.start N vs) H := by
  obtain ⟨G, x, dx, us, xs, out, rfl, hx, hdx, ne, ⟨e, t0⟩, r, hr, q1, q2⟩ := h
  have est : L2.start N (.ref x :: us) = some (.ref x) :: (us.map some ++ List.replicate (N.length - 1 - us.length) none) := by
    unfold L2.start
    rw [List.map_cons, List.cons_append, List.length_cons, Nat.sub_add_eq, Nat.sub_right_comm]
  rw [est]
  have h0 := ok_startH (n := N.length - 1) e hid_ex t0 (hid_tab t0) r
  have hx0 : hid H x dx x = none := by unfold hid; simp
  have hd0 : hid H x dx dx = none := by unfold hid; simp
  have ok : OKG K (hid H x dx) G H G (some (.ref x) :: (us.map some ++ List.replicate (N.length - 1 - us.length) none)) (slotsI N.length x C xs) := by
    refine h0.push (s := .ob (some x) C []) ⟨x, dx, [], rfl, (fun _ z => Option.some.inj z), hx0, e.none hx0, hd0, e.none hd0, hx, hdx, .nil⟩ fun _ j s p _ hj ho _ => ?_
    have : ∀ s ∈ slots (N.length - 1) xs, owned s = false := fun s hs => by
      rcases List.mem_append.mp hs with z | z
      · obtain ⟨x, _, rfl⟩ := List.mem_map.mp z; rfl
      · rw [List.eq_of_mem_replicate z]; rfl
    rw [this s (List.mem_of_getElem? hj)] at ho; cases ho
  refine k x xs out hr (hid H x dx) G H _ _ ⟨G, ok⟩ (fun δ' σ' H' ⟨G', ok'⟩ ⟨fs, e0, eo⟩ => ?_) (fun _ _ _ _ _ _ z => z.elim) (fun _ _ _ _ z => z.elim) (fun _ _ _ _ z => z.elim) fun c fs cls d G' σ' δ' H' ok x z => q2 c fs cls d G' H' z ok.ge ok.gh ok.he ok.nc x
  obtain ⟨o, _, x', dx', gs, rfl, hq, h1, h2, h3, h4, h5, h6, rf⟩ := ok'.sl 0 _ e0
  cases hq x rfl
  have ne2 : dx' ≠ x := fun z => by rw [z, h5] at h6; cases h6
  have g1 : Ex G' (upd (upd G' x (.ins C dx' gs)) dx' (.own x)) := (Ex.new h2).trans (.new (by rw [upd_ne ne2]; exact h4))
  refine q1 fs _ H' eo (ok'.ge.trans g1) ⟨fun b u q n => ?_, fun b ps q => ?_⟩ ok'.he ⟨fun b b1 b2 => ?_, ok'.nc.t0, ok'.nc.tb.mono (fun _ _ e => e) g1⟩ (.ins (by rw [upd_ne (Ne.symm ne2), upd_same]) (rf.mono g1))
  · by_cases z : b = dx'
    · subst z; rw [upd_same] at q; cases q; exact h6
    · rw [upd_ne z] at q
      by_cases z2 : b = x
      · subst z2; rw [upd_same] at q; cases q; exact h5
      · rw [upd_ne z2] at q; exact ok'.gh.nt b u q n
  · by_cases z : b = dx'
    · subst z; rw [upd_same] at q; cases q
    · rw [upd_ne z] at q
      by_cases z2 : b = x
      · subst z2; rw [upd_same] at q; cases q
      · rw [upd_ne z2] at q; exact ok'.gh.tb b ps q
  · have z1 : b ≠ dx' := fun z => b1 (by rw [z]; exact h3)
    have z2 : b ≠ x := fun z => b1 (by rw [z]; exact h1)
    rw [upd_ne z1, upd_ne z2]; exact ok'.nc b b1 b2
section
variable {K : PySem.W.Frag} {δ : List S} {te ta tb : TE} {tr : TA} {x y z : D} {s : S} {xs : List D} {fs : List (Str × D)} {C : Addr} {R : List D → Out → Prop} {E : L2.St → XK} {c : Addr} {cf : List (Str × D)}
/-! ### expressions that let out -/
/-- te lets out an exception of the class at c with the fields cf -/
def EX (K : PySem.W.Frag) (E : L2.St → XK) (te : TE) (δ : List S) (c : Addr) (cf : List (Str × D)) : Prop := ∀ (He Ge H : Hp) (τo : L2.St) (τs : List S) (σ : L2.St), τo.length = τs.length → OK K He Ge H (τo ++ σ) (τs ++ δ) →
  (∀ cls d G' H', OKG K He Ge H' G' (τo ++ σ) (τs ++ δ) → XOk K G' H' c cf cls d → E σ cls d H') → ∀ Q : VK, te σ H Q
def EXA (K : PySem.W.Frag) (E : L2.St → XK) (ta : TA) (δ : List S) (c : Addr) (cf : List (Str × D)) : Prop := ∀ (He Ge H : Hp) (τo : L2.St) (τs : List S) (σ : L2.St), τo.length = τs.length → OK K He Ge H (τo ++ σ) (τs ++ δ) →
  (∀ cls d G' H', OKG K He Ge H' G' (τo ++ σ) (τs ++ δ) → XOk K G' H' c cf cls d → E σ cls d H') → ∀ Q : List V → Hp → Prop, ta σ H Q
theorem sp_ret {He Ge H G : Hp} {σ : L2.St} {δ : List S} {vs : List V} {E : XK} (ok1 : OKG K He Ge H G σ δ) (r1 : RpL K G xs vs) (hr : R xs (.ret s)) {Q : VK} (q : ∀ v H', OK K He Ge H' (some v :: σ) (s :: δ) → Q v H') : spD K R vs H Q E := by
  refine ⟨G, xs, .ret s, ⟨ok1.gh, ok1.nc.tb⟩, r1, hr, fun v s' G' H' e g1 g2 g3 nc k _ => ?_, fun c fs cls d G' H' e => (nomatch e)⟩
  cases e
  refine q v H' ⟨G', (ok1.grow g3 g1 g2 nc).push ?_ fun ho j t p e hj hoj eσ => ?_⟩
  · cases s with
    | un => trivial
    | ot _ _ _ => trivial
    | d x => exact k
    | own ys => obtain ⟨p, us, e, h1, h2, h3, r⟩ := k; exact ⟨p, us, e, ok1.he.none h1, h2, h3, r⟩
    | okd ys => obtain ⟨p, us, e, h1, h2, h3, r⟩ := k; exact ⟨p, us, e, ok1.he.none h1, h2, h3, r⟩
    | oko ys => obtain ⟨p, us, e, h1, h2, h3⟩ := k; exact ⟨p, us, e, ok1.he.none h1, h2, h3⟩
    | ob q C fs => obtain ⟨a, dx, gs, e, hq, h1, h2, h3, h4, h5, h6, r⟩ := k; exact ⟨a, dx, gs, e, hq, ok1.he.none h1, h2, ok1.he.none h3, h4, h5, h6, r⟩
  · cases e
    have hn : H p = none := by
      cases s with
      | un => cases ho
      | ot _ _ _ => cases ho
      | d x => cases ho
      | own ys => obtain ⟨p', us, e, h1, _⟩ := k; cases e; exact h1
      | okd ys => obtain ⟨p', us, e, h1, _⟩ := k; cases e; exact h1
      | oko ys => obtain ⟨p', us, e, h1, _⟩ := k; cases e; exact h1
      | ob q C fs => obtain ⟨a, dx, gs, e, _, h1, _⟩ := k; cases e; exact h1
    obtain ⟨o, eo, k2⟩ := ok1.sl j t hj
    rw [eo] at eσ
    cases eσ
    cases t with
    | un => cases hoj
    | ot _ _ _ => cases hoj
    | d x => cases hoj
    | own ys => obtain ⟨p', vs', e, _, _, h3, _⟩ := k2; cases e; rw [hn] at h3; cases h3
    | okd ys => obtain ⟨p', vs', e, _, _, h3, _⟩ := k2; cases e; rw [hn] at h3; cases h3
    | oko ys => obtain ⟨p', vs', e, _, _, h3⟩ := k2; cases e; rw [hn] at h3; cases h3
    | ob q C fs => obtain ⟨a, dx, gs, e, _, _, _, _, _, h5, _⟩ := k2; cases e; rw [hn] at h5; cases h5
theorem ev_callS (h : EA K tr δ xs) (hr : R xs (.ret s)) : EV K (tCallS (spD K R) E tr) δ s := by
  intro He Ge H τo τs σ hl ok Q q
  have z := ev_call (E := E σ) h hr He Ge H τo τs σ hl ok Q q
  unfold tCall at z
  simp only [List.append_nil] at z
  exact z
theorem ex_callS (h : EA K tr δ xs) (hr : R xs (.exc c cf)) : EX K E (tCallS (spD K R) E tr) δ c cf := by
  intro He Ge H τo τs σ hl ok k Q
  refine h He Ge H τo τs σ hl ok _ fun vs H1 G ok1 r1 => ?_
  exact ⟨G, xs, .exc c cf, ⟨ok1.gh, ok1.nc.tb⟩, r1, hr, fun v s' G' H' e => (nomatch e), fun c' fs cls d G' H' e g1 g2 g3 nc k2 => by
    cases e
    exact k cls d G' H' (ok1.grow g3 g1 g2 nc) k2⟩
theorem ex_callA (h : EXA K E tr δ c cf) : EX K E (tCallS (spD K R) E tr) δ c cf := fun He Ge H τo τs σ hl ok k Q => h He Ge H τo τs σ hl ok k _
theorem exa_head (h : EX K E te δ c cf) : EXA K E (tCons te tr) δ c cf := fun He Ge H τo τs σ hl ok k Q => h He Ge H τo τs σ hl ok k _
theorem exa_tail (h1 : EV K te δ (.d x)) (h : EXA K E tr δ c cf) : EXA K E (tCons te tr) δ c cf := fun He Ge H τo τs σ hl ok k Q =>
  h1 He Ge H τo τs σ hl ok _ fun v H1 ok1 => h He Ge H1 (some v :: τo) (.d x :: τs) σ (by simp [hl]) ok1 (fun cls d G' H' ok' x => k cls d G' H' ok'.pop x) _
theorem ex_op1 {r : R2} (h : EX K E ta δ c cf) : EX K E (tOp r ta tb) δ c cf := fun He Ge H τo τs σ hl ok k Q => h He Ge H τo τs σ hl ok k _
theorem ex_op2 {r : R2} (h1 : EV K ta δ (.d x)) (h : EX K E tb δ c cf) : EX K E (tOp r ta tb) δ c cf := fun He Ge H τo τs σ hl ok k Q =>
  h1 He Ge H τo τs σ hl ok _ fun v H1 ok1 => h He Ge H1 (some v :: τo) (.d x :: τs) σ (by simp [hl]) ok1 (fun cls d G' H' ok' x => k cls d G' H' ok'.pop x) _
/-! ### constructors, methods, fields -/
theorem ev_makeS (h : EA K tr δ xs) (hr : R xs (.ret (.d (.ins C fs)))) : EV K (tMakeS C (spI K C R) E tr) δ (.d (.ins C fs)) := by
  intro He Ge H τo τs σ hl ok Q q
  refine h He Ge H τo τs σ hl ok _ fun vs H1 G ok1 r1 => ?_
  intro x dx hx hdx ne
  have hh := hid_new (o1 := .own x) (o2 := .ins C dx []) hx hdx
  refine ⟨G, x, dx, vs, xs, _, rfl, upd_same, by rw [upd_ne ne, upd_same], ne, by rw [hh]; exact ⟨ok1.gh, ok1.nc.tb⟩, r1, hr, fun fs' G' H' e g1 g2 g3 nc k => ?_, fun c fs cls d G' H' e => (nomatch e)⟩
  cases e
  rw [hh] at g3 nc
  exact ⟨rfl, q _ H' ⟨G', (ok1.grow g3 g1 g2 nc).pushD k⟩⟩
theorem ex_makeS (h : EA K tr δ xs) (hr : R xs (.exc c cf)) : EX K E (tMakeS C (spI K C R) E tr) δ c cf := by
  intro He Ge H τo τs σ hl ok k Q
  refine h He Ge H τo τs σ hl ok _ fun vs H1 G ok1 r1 => ?_
  intro x dx hx hdx ne
  have hh := hid_new (o1 := .own x) (o2 := .ins C dx []) hx hdx
  refine ⟨G, x, dx, vs, xs, _, rfl, upd_same, by rw [upd_ne ne, upd_same], ne, by rw [hh]; exact ⟨ok1.gh, ok1.nc.tb⟩, r1, hr, fun fs' G' H' e => (nomatch e), fun c' fs cls d G' H' e g1 g2 g3 nc k2 => ?_⟩
  cases e
  rw [hh] at g3 nc
  exact k cls d G' H' (ok1.grow g3 g1 g2 nc) k2
theorem ex_makeA (h : EXA K E tr δ c cf) : EX K E (tMakeS C (spI K C R) E tr) δ c cf := fun He Ge H τo τs σ hl ok k Q => h He Ge H τo τs σ hl ok k _
theorem ev_methS {m : Str} (h0 : EV K ta δ (.d (.ins C fs))) (hm : fs.lookup m = none) (h : EA K tr δ xs) (hr : R (.ins C fs :: xs) (.ret s)) : EV K (tMethS C m (spD K R) E ta tr) δ s := by
  intro He Ge H τo τs σ hl ok Q q
  refine h0 He Ge H τo τs σ hl ok _ fun v H1 ok1 => ?_
  obtain ⟨G1, ok1⟩ := ok1
  obtain ⟨_, e1, r1⟩ := ok1.top
  cases e1
  cases r1 with
  | ins hp rf =>
    refine ⟨_, _, _, rfl, ok1.gh _ _ hp, rf.nolook hm, ?_⟩
    refine h He Ge H1 (some _ :: τo) (.d (.ins C fs) :: τs) σ (by simp [hl]) ⟨G1, ok1⟩ _ fun vs H2 G2 ok2 r2 => ?_
    obtain ⟨_, e2, r3⟩ := ok2.top
    cases e2
    exact sp_ret ok2.pop (.cons r3 r2) hr q
theorem ex_methS {m : Str} (h0 : EV K ta δ (.d (.ins C fs))) (hm : fs.lookup m = none) (h : EA K tr δ xs) (hr : R (.ins C fs :: xs) (.exc c cf)) : EX K E (tMethS C m (spD K R) E ta tr) δ c cf := by
  intro He Ge H τo τs σ hl ok k Q
  refine h0 He Ge H τo τs σ hl ok _ fun v H1 ok1 => ?_
  obtain ⟨G1, ok1⟩ := ok1
  obtain ⟨_, e1, r1⟩ := ok1.top
  cases e1
  cases r1 with
  | ins hp rf =>
    refine ⟨_, _, _, rfl, ok1.gh _ _ hp, rf.nolook hm, ?_⟩
    refine h He Ge H1 (some _ :: τo) (.d (.ins C fs) :: τs) σ (by simp [hl]) ⟨G1, ok1⟩ _ fun vs H2 G2 ok2 r2 => ?_
    obtain ⟨_, e2, r3⟩ := ok2.top
    cases e2
    exact ⟨G2, _, .exc c cf, ⟨ok2.gh, ok2.nc.tb⟩, .cons r3 r2, hr, fun v s' G' H' e => (nomatch e), fun c' fs cls d G' H' e g1 g2 g3 nc k2 => by
      cases e
      exact k cls d G' H' (ok2.pop.grow g3 g1 g2 nc) k2⟩
theorem ev_fld {f : Str} (h : EV K ta δ (.d (.ins C fs))) (c : Cls K C) (n : NoAttr K C f) (l : fs.lookup f = some x) : EV K (tFld K ta f) δ (.d x) := by
  intro He Ge H τo τs σ hl ok Q q
  refine h He Ge H τo τs σ hl ok _ fun v H1 ⟨G1, ok1⟩ => ?_
  obtain ⟨_, e1, r1⟩ := ok1.top
  cases e1
  cases r1 with
  | ins hp rf =>
    obtain ⟨u, l2, r2⟩ := rf.lookup l
    exact ⟨_, _, _, _, _, rfl, ok1.gh _ _ hp, c, n, l2, q _ _ ⟨G1, ok1.pop.pushD r2⟩⟩
/-! ### statements -/
variable {W : WX} {N B Ct : List S → Prop} {Rt : S → List S → Prop} {Xc : List S → Addr → List (Str × D) → Prop} {t u : TS}
def tRaise (C : Addr) (W : WX) : TS := fun _ σ H => W (.ref C) none σ H
theorem sd_raise (h : Xc δ C []) : SD K W (tRaise C W) δ N Rt B Ct Xc := fun He Ge H σ Dn ⟨G, ok⟩ nx rt bk ct xx => xx C [] (.ref C) none G σ δ H ok ⟨rfl, .inl ⟨rfl, rfl⟩⟩ h
theorem ex0 (h : EX K (WE W) te δ c cf) {He Ge H : Hp} {σ : L2.St} (ok : OK K He Ge H σ δ) (k : ∀ cls d G' H', OKG K He Ge H' G' σ δ → XOk K G' H' c cf cls d → W cls d σ H') (Q : VK) : te σ H Q := h He Ge H [] [] σ rfl ok k Q
theorem sd_asgX {g : TG} (h : EX K (WE W) te δ c cf) (hx : Xc δ c cf) : SD K W (tAsg te g) δ N Rt B Ct Xc := fun He Ge H σ Dn ok nx rt bk ct xx => ex0 h ok (fun cls d G' H' ok' x => xx c cf cls d G' σ δ H' ok' x hx) _
theorem sd_dropX (h : EX K (WE W) te δ c cf) (hx : Xc δ c cf) : SD K W (tDrop te) δ N Rt B Ct Xc := fun He Ge H σ Dn ok nx rt bk ct xx => ex0 h ok (fun cls d G' H' ok' x => xx c cf cls d G' σ δ H' ok' x hx) _
theorem sd_retX (h : EX K (WE W) te δ c cf) (hx : Xc δ c cf) : SD K W (tRet te) δ N Rt B Ct Xc := fun He Ge H σ Dn ok nx rt bk ct xx => ex0 h ok (fun cls d G' H' ok' x => xx c cf cls d G' σ δ H' ok' x hx) _
theorem sd_try {cv : Value} {i j : Nat} {tb : WX → TS} {X1 : List S → Addr → List (Str × D) → Prop} (hb : ∀ W, SD K W (tb W) δ N Rt B Ct X1)
    (hx : ∀ δ' c fs, X1 δ' c fs → i < δ'.length ∧ j < δ'.length ∧ PySem.W.exmOne K (.ref c) cv = some true ∧ N (((δ'.set i .un).set j (.d (.exc c fs))).set i .un)) : SD K W (tTryK K cv i j tb) δ N Rt B Ct Xc := by
  intro He Ge H σ Dn ok nx rt bk ct xx
  refine hb (wKeep K cv i j Dn) He Ge H σ Dn ok nx rt bk ct fun c fs cls d G' σ' δ' H' ok' xo h1 => ?_
  obtain ⟨k1, k2, k3, k4⟩ := hx δ' c fs h1
  obtain ⟨rfl, hd⟩ := xo
  refine ⟨k3, fun a na => ?_⟩
  have ok2 := ok'.newG (u := ExK (.ref c) d a) na
  have ga : G' a = none := ok'.gh.none na
  have r : Rp K (upd G' a (ExK (.ref c) d a)) (.exc c fs) (.ref a) := by
    rcases hd with ⟨rfl, rfl⟩ | ⟨dd, gs, rfl, e, r, nn⟩
    · exact .exc0 upd_same
    · exact .exc1 upd_same (by rw [upd_ne (ne_of_none e ga)]; exact e) (r.mono (.new ga)) nn
  have ok3 := (ok2.push (s := .un) (o := some (.ref a)) trivial fun z => nomatch z).store k1
  have ok4 := (ok3.pushD r).store (i := j) (by rw [List.length_set]; exact k2)
  have ok5 := (ok4.push (s := .un) (o := none) trivial fun z => nomatch z).store (i := i) (by simp only [List.length_set]; exact k1)
  exact nx _ _ _ ⟨_, ok5⟩ k4
theorem OKG.changeOb {He Ge H G : Hp} {σ : L2.St} {i : Nat} {q : Option Addr} {a dx : Addr} {gs gs2 : List (Str × V)} {fs2 : List (Str × D)} (h : OKG K He Ge H G σ δ) (hi : δ[i]? = some (.ob q C fs)) (hs : σ[i]? = some (some (.ref a))) (hl : H a = some (.ins C dx gs)) (r : RpF K G fs2 gs2) : OKG K He Ge (upd H a (.ins C dx gs2)) G σ (δ.set i (.ob q C fs2)) := by
  obtain ⟨o, e, a1, dx1, gs', rfl, hq, h1, h2, h3, h4, h5, h6, r'⟩ := h.sl i _ hi
  have hs' := hs
  rw [e] at hs'
  cases hs'
  rw [h5] at hl
  cases hl
  have hlt : i < δ.length := (List.getElem?_eq_some_iff.mp hi).1
  have nd : dx ≠ a := fun z => by rw [z, h5] at h6; cases h6
  refine ⟨h.ge, h.gh.put h2, h.he.put h1, ⟨h.nc, h.nc.t0, h.nc.tb.put (fun ps z => by rw [h5] at z; cases z) (.refl G)⟩, fun j t q => ?_, fun j k s' t p' hjk hj hk o1 o2 e1 e2 => ?_⟩
  · by_cases z : i = j
    · subst z
      rw [List.getElem?_set_self hlt] at q; cases q
      exact ⟨_, e, a, dx, gs2, rfl, hq, h1, h2, h3, h4, upd_same, by rw [upd_ne nd]; exact h6, r⟩
    · rw [List.getElem?_set_ne z] at q
      obtain ⟨o, eo, k⟩ := h.sl j t q
      refine ⟨o, eo, ?_⟩
      cases t with
      | un => trivial
      | ot _ _ _ => trivial
      | d x => exact k
      | own zs =>
        obtain ⟨p2, vs2, rfl, k1, k2, k3, r2⟩ := k
        have ne : p2 ≠ a := fun y => by rw [y, h5] at k3; cases k3
        exact ⟨p2, vs2, rfl, k1, k2, by rw [upd_ne ne]; exact k3, r2⟩
      | okd zs =>
        obtain ⟨p2, vs2, rfl, k1, k2, k3, r2⟩ := k
        have ne : p2 ≠ a := fun y => by rw [y, h5] at k3; cases k3
        exact ⟨p2, vs2, rfl, k1, k2, by rw [upd_ne ne]; exact k3, r2⟩
      | oko zs =>
        obtain ⟨p2, vs2, rfl, k1, k2, k3⟩ := k
        have ne : p2 ≠ a := fun y => by rw [y, h5] at k3; cases k3
        exact ⟨p2, vs2, rfl, k1, k2, by rw [upd_ne ne]; exact k3⟩
      | ob q2 C2 fs3 =>
        obtain ⟨a2, dx2, gs3, rfl, kq, k1, k2, k3, k4, k5, k6, r2⟩ := k
        have n1 : a2 ≠ a := fun y => h.ne i j _ _ a z hi q rfl rfl e (by rw [← y]; exact eo)
        have n2 : dx2 ≠ a := fun y => by rw [y, h5] at k6; cases k6
        exact ⟨a2, dx2, gs3, rfl, kq, k1, k2, k3, k4, by rw [upd_ne n1]; exact k5, by rw [upd_ne n2]; exact k6, r2⟩
  · have un : ∀ (m : Nat) (s : S), (δ.set i (.ob q C fs2))[m]? = some s → owned s = true → ∃ s2, δ[m]? = some s2 ∧ owned s2 = true := fun m s q q2 => by
      by_cases z : i = m
      · subst z; exact ⟨_, hi, rfl⟩
      · rw [List.getElem?_set_ne z] at q; exact ⟨s, q, q2⟩
    obtain ⟨s2, q1, q2⟩ := un j _ hj o1
    obtain ⟨t2, q3, q4⟩ := un k _ hk o2
    exact h.ne j k s2 t2 p' hjk q1 q3 q2 q4 e1 e2
theorem sd_fld {i : Nat} {a : Option Addr} {f : Str} (hi : δ[i]? = some (.ob a C fs)) (h : EV K te δ (.d x)) (c : Cls K C) (n : NoAttr K C f) (hl : fs.length < 1000) (nx : N (δ.set i (.ob a C (putD f x fs)))) : SD K W (sFld K (tVar i) te f) δ N Rt B Ct Xc := by
  intro He Ge H σ Dn ok n1 rt bk ct xx
  refine ev0 h ok fun v H' ⟨G', ok'⟩ => ?_
  obtain ⟨o, eo, a0, dx, gs, rfl, kq, k1, k2, k3, k4, k5, k6, rf⟩ := ok'.pop.sl i _ hi
  obtain ⟨w, e4, rw_⟩ := ok'.top
  cases e4
  exact ⟨_, eo, a0, C, dx, gs, rfl, k5, c, n, by rw [← rf.length]; exact hl, n1 _ _ _ ⟨G', ok'.pop.changeOb hi eo k5 (rf.put rw_)⟩ nx⟩
end
/-! ### isinstance -/
def rIsX (K : PySem.W.Frag) : List V → Hp → VK → Prop := fun xs H Q => ∃ (a D : Addr) (c : V) (cv : Value) (b : Bool), xs = [.ref a, c] ∧ (H a = some (ExK (.ref D) none a) ∨ H a = some (ExO (.ref D) a)) ∧ ExcC K D ∧ ClsV c cv ∧ PySem.W.kitOne K (.ref D) cv = some b ∧ Q (.bl b) H
def rIsXT (K : PySem.W.Frag) : List V → Hp → VK → Prop := fun xs H Q => ∃ (a D tp : Addr) (cs : List V) (us : List Value) (b : Bool), xs = [.ref a, .ref tp] ∧ (H a = some (ExK (.ref D) none a) ∨ H a = some (ExO (.ref D) a)) ∧ ExcC K D ∧ SqT K H tp cs ∧ Paired ClsV cs us ∧ PySem.W.kitAny K (.ref D) us = some b ∧ Q (.bl b) H
def rIsTS (K : PySem.W.Frag) : List V → Hp → VK → Prop := fun xs H Q => ∃ (x : V) (tp : Addr) (cs : List V) (t : Value) (us : List Value) (b : Bool), xs = [x, .ref tp] ∧ SqT K H tp cs ∧ Paired ClsV cs us ∧ TyX K H x t ∧ PySem.W.kitAny K t us = some b ∧ Q (.bl b) H
def rIsU (K : PySem.W.Frag) : List V → Hp → VK → Prop := fun xs H Q => rIsi K xs H Q ∨ rIsX K xs H Q ∨ rIsTS K xs H Q ∨ rIsXT K xs H Q
section
variable {X : Cx}
theorem exc_at {pins : List (Addr × Obj)} {σ : L2.St} {H : Hp} {s : Shared} {a D : Addr} (I : Inv X pins σ H s) (h : H a = some (ExK (.ref D) none a) ∨ H a = some (ExO (.ref D) a)) : ∃ oe, PySem.W.InstAt s.heap a oe D none := by
  have z : ∃ (oe : Obj) (vs : Array Value), s.heap.get? a = some oe ∧ Zc (.ref D) none oe ∧ oe.data = .fields vs := by
    rcases h with h | h
    · obtain ⟨z, _⟩ := I.hok a _ h; exact z
    · obtain ⟨⟨oe, vs, e, z, d, _⟩, _⟩ := I.hok a _ h; exact ⟨oe, vs, e, z, d⟩
  obtain ⟨oe, vs, e, z, d⟩ := z
  refine ⟨oe, ?_⟩
  obtain ⟨oc, od, oda, osl⟩ := oe
  obtain ⟨h1, h2⟩ := z
  dsimp only at h1 h2 d
  subst h1 h2 d
  exact ⟨e, rfl, rfl, trivial⟩
theorem call_isU : CallR X (.builtin "isinstance") (rIsU X.K) := by
  intro pins s σ H xs us Q I r h
  rcases h with h | h | h | h
  · exact call_isi pins s σ H xs us Q I r h
  · obtain ⟨a, D, c, cv, b, rfl, ha, C, k, e, q⟩ := h
    obtain ⟨u1, u2, rfl, r1, r2⟩ := vals2 r
    have e2 := k.eq r2
    subst e2
    cases (show u1 = Value.ref a from r1)
    obtain ⟨oe, J⟩ := exc_at I ha
    exact PySem.W.kia_one (PySem.W.handS_kitx_exc C.hg C.hk C.hs C.hd C.ha C.hn C.ht C.hm) I.kIn J e (fun z => nomatch z) fun tk => ⟨.bl b, H, I.tok tk, rfl, q⟩
  · obtain ⟨x, tp, cs, t, ws, b, rfl, hT, k, ty, e, q⟩ := h
    obtain ⟨u1, u2, rfl, r1, r2⟩ := vals2 r
    cases (show u2 = Value.ref tp from r2)
    obtain ⟨P, Z, p, hx⟩ := kit_of I r1 ty
    obtain ⟨its, rv, ⟨o, h1, h2, n, h3⟩, _⟩ := I.tuple hT
    have e3 := ClsV.all k rv
    subst e3
    obtain ⟨oc, od, dt, sl⟩ := o
    simp only at h2 h3
    subst h2 h3
    exact PySem.W.kia_tup Z I.kIn p h1 e hx fun tk => ⟨.bl b, H, I.tok tk, rfl, q⟩
  · obtain ⟨a, D, tp, cs, ws, b, rfl, ha, C, hT, k, e, q⟩ := h
    obtain ⟨u1, u2, rfl, r1, r2⟩ := vals2 r
    cases (show u2 = Value.ref tp from r2)
    cases (show u1 = Value.ref a from r1)
    obtain ⟨oe, J⟩ := exc_at I ha
    obtain ⟨its, rv, ⟨o, h1, h2, n, h3⟩, _⟩ := I.tuple hT
    have e3 := ClsV.all k rv
    subst e3
    obtain ⟨oc, od, dt, sl⟩ := o
    simp only at h2 h3
    subst h2 h3
    exact PySem.W.kia_tup (PySem.W.handS_kitx_exc C.hg C.hk C.hs C.hd C.ha C.hn C.ht C.hm) I.kIn J h1 e (fun z => nomatch z) fun tk => ⟨.bl b, H, I.tok tk, rfl, q⟩
end
/-- a class of the text, as isinstance asks its instances -/
structure InsC (K : PySem.W.Frag) (C : Addr) : Prop where
  cl : Cls K C
  ha : PySem.W.findIn K (.ref C) "__class__" = some (some (.builtin "object.__class__"))
  hn : PySem.W.specialIn K (.builtin "object.__class__") "__get__" = some (some (.builtin "getset_descriptor.__get__"))
  ht : PySem.W.takesIn K (.builtin "object.__class__") = some true
  hm : PySem.W.mroIn K C (.type "object") = some true
/-- the class that a datum is -/
def clsD : D → Option Value
  | .ty n => some (.type n) | .cls a => some (.ref a) | _ => none
section
variable {K : PySem.W.Frag} {x c : D} {b : Bool} {cv : Value}
theorem clsV_of {G : Hp} {v : V} (h : clsD c = some cv) (r : Rp K G c v) : ClsV v cv := by
  cases r <;> simp [clsD] at h
  · subst h; exact .ty _
  · subst h; exact .own _
theorem clsV_all {G : Hp} : ∀ {cs : List D} {us : List Value} {vs : List V}, cs.mapM clsD = some us → RpL K G cs vs → Paired ClsV vs us
  | [], us, vs, h, r => by
    cases r
    simp at h
    subst h; exact .nil
  | c :: cs, us, vs, h, r => by
    cases r with
    | cons r0 r =>
      rw [List.mapM_cons] at h
      cases e : clsD c with
      | none => rw [e] at h; simp at h
      | some w =>
        rw [e] at h
        cases e2 : cs.mapM clsD with
        | none => rw [e2] at h; simp at h
        | some ws =>
          rw [e2] at h
          simp at h
          subst h
          exact .cons (clsV_of e r0) (clsV_all e2 r)
/-- what isinstance asks of a datum: its class -/
inductive Kin (K : PySem.W.Frag) : D → Value → Prop
  | ty {x : D} (h : known x = true) : Kin K x (.type (tyN x))
  | ins {C : Addr} {fs : List (Str × D)} (h : InsC K C) : Kin K (.ins C fs) (.ref C)
  | exc {C : Addr} (h : ExcC K C) : Kin K (.exc C []) (.ref C)
theorem is_any {t : Value} (hk : Kin K x t) (hc : clsD c = some cv) (h : PySem.W.kitOne K t cv = some b) : RVN K (rIsU K) [x, c] (.d (.bl b)) := by
  intro He Ge H G σ δ vs ok r Q q
  cases r with
  | cons r0 r2 =>
    cases r2 with
    | cons r1 r2 =>
      cases r2
      cases hk with
      | ty hk => exact .inl ⟨_, _, _, _, b, rfl, clsV_of hc r1, known_ty hk ok.gh r0, h, q _ _ (done ok .bl)⟩
      | ins hi =>
        cases r0 with
        | ins hp rf => exact .inl ⟨_, _, _, _, b, rfl, clsV_of hc r1, .base (.ins (ok.gh _ _ hp) hi.cl hi.ha hi.hn hi.ht hi.hm), h, q _ _ (done ok .bl)⟩
      | exc he =>
        cases r0 with
        | exc0 hp => exact .inr (.inl ⟨_, _, _, _, b, rfl, .inl (ok.gh _ _ hp), he, clsV_of hc r1, h, q _ _ (done ok .bl)⟩)
        | exo hp => exact .inr (.inl ⟨_, _, _, _, b, rfl, .inr (ok.gh _ _ hp), he, clsV_of hc r1, h, q _ _ (done ok .bl)⟩)
        | exc1 _ _ _ n => exact absurd rfl n
theorem is_anyT {t : Value} {cs : List D} {us : List Value} (hk : Kin K x t) (hc : cs.mapM clsD = some us) (h : PySem.W.kitAny K t us = some b) : RVN K (rIsU K) [x, .tup cs] (.d (.bl b)) := by
  intro He Ge H G σ δ vs ok r Q q
  cases r with
  | cons r0 r2 =>
    cases r2 with
    | cons r1 r2 =>
      cases r2
      cases r1 with
      | tup hT rT =>
        have hP := clsV_all hc rT
        have hT' := ok.gh.t hT.t
        cases hk with
        | ty hk => exact .inr (.inr (.inl ⟨_, _, _, _, _, b, rfl, hT', hP, known_ty hk ok.gh r0, h, q _ _ (done ok .bl)⟩))
        | ins hi =>
          cases r0 with
          | ins hp rf => exact .inr (.inr (.inl ⟨_, _, _, _, _, b, rfl, hT', hP, .base (.ins (ok.gh _ _ hp) hi.cl hi.ha hi.hn hi.ht hi.hm), h, q _ _ (done ok .bl)⟩))
        | exc he =>
          cases r0 with
          | exc0 hp => exact .inr (.inr (.inr ⟨_, _, _, _, _, b, rfl, .inl (ok.gh _ _ hp), he, hT', hP, h, q _ _ (done ok .bl)⟩))
          | exo hp => exact .inr (.inr (.inr ⟨_, _, _, _, _, b, rfl, .inr (ok.gh _ _ hp), he, hT', hP, h, q _ _ (done ok .bl)⟩))
          | exc1 _ _ _ n => exact absurd rfl n
theorem kitB_isTy {n : String} (h : (kitB (tyN x) n).isSome = true) : PySem.W.kitOne K (.type (tyN x)) (.type n) = some (isTy x n) := by
  refine kit_ty ?_
  unfold isTy
  cases e : kitB (tyN x) n with
  | none => rw [e] at h; cases h
  | some b => rfl
theorem isU_ty {n : String} (hk : known x = true) (h : (kitB (tyN x) n).isSome = true) : RVN K (rIsU K) [x, .ty n] (.d (.bl (isTy x n))) := is_any (.ty hk) rfl (kitB_isTy h)
theorem kitAny_tys : ∀ {ns : List String}, (∀ n ∈ ns, (kitB (tyN x) n).isSome = true) → PySem.W.kitAny K (.type (tyN x)) (ns.map .type) = some (ns.any (isTy x))
  | [], _ => rfl
  | n :: ns, h => by
    rw [List.map_cons, List.any_cons]
    refine kitAny_cons (kitB_isTy (h n List.mem_cons_self)) (fun e => ?_) fun e => by rw [e]; rfl
    rw [e, Bool.false_or]
    exact kitAny_tys fun n hn => h n (List.mem_cons_of_mem _ hn)
theorem isU_tys {ns : List String} {cs : List D} (e : cs = ns.map .ty) (hk : known x = true) (h : ∀ n ∈ ns, (kitB (tyN x) n).isSome = true) : RVN K (rIsU K) [x, .tup cs] (.d (.bl (ns.any (isTy x)))) := by
  subst e
  refine is_anyT (us := ns.map .type) (.ty hk) ?_ (kitAny_tys h)
  induction ns with
  | nil => rfl
  | cons n ns ih => rw [List.map_cons, List.mapM_cons, ih fun m hm => h m (List.mem_cons_of_mem _ hm)]; rfl
/-- an own class against an own class -/
theorem kit_own {C D : Addr} {b : Bool} (h1 : PySem.W.isClsIn K C = true) (h2 : PySem.W.typeIn K (.ref C) = some (.type "type")) (h3 : PySem.W.subIn K (.ref C) (.ref C) = some true) (h4 : PySem.W.subIn K (.ref D) (.ref C) = some b) : PySem.W.kitOne K (.ref D) (.ref C) = some b := by
  unfold PySem.W.kitOne
  by_cases e : D = C
  · subst e
    rw [h3] at h4
    rw [if_pos (by simp)]; exact h4
  · rw [if_neg (by simp [e])]
    have h1' : (PySem.W.clsIn K C).isSome = true := h1
    show (if ((PySem.W.clsIn K C).isSome && PySem.W.typeIn K (.ref C) == some (.type "type")) = true then PySem.W.subIn K (.ref D) (.ref C) else none) = some b
    rw [if_pos (by rw [h1', h2] <;> rfl)]
    exact h4
theorem kit_ownT {T : String} {t : Value} {b : Bool} (h1 : PySem.W.kitMeta T = true) (ht : (t == .type T) = false) (h4 : PySem.W.subIn K t (.type T) = some b) : PySem.W.kitOne K t (.type T) = some b := by
  unfold PySem.W.kitOne
  rw [if_neg (by rw [ht]; exact Bool.false_ne_true)]
  show (if PySem.W.kitMeta T = true then PySem.W.subIn K t (.type T) else none) = some b
  rw [if_pos h1]; exact h4
/-- a built-in kind against an own class -/
theorem kit_tyOwn {C : Addr} {n : String} {b : Bool} (h1 : PySem.W.isClsIn K C = true) (h2 : PySem.W.typeIn K (.ref C) = some (.type "type")) (h4 : PySem.W.subIn K (.type n) (.ref C) = some b) : PySem.W.kitOne K (.type n) (.ref C) = some b := by
  unfold PySem.W.kitOne
  rw [if_neg (by simp)]
  have h1' : (PySem.W.clsIn K C).isSome = true := h1
  show (if ((PySem.W.clsIn K C).isSome && PySem.W.typeIn K (.ref C) == some (.type "type")) = true then PySem.W.subIn K (.type n) (.ref C) else none) = some b
  rw [if_pos (by rw [h1', h2] <;> rfl)]
  exact h4
end
/-! ### defs -/
section
variable {P : Program} {w : World} {K : PySem.W.Frag} {mg : Str → Option Value} {base : Heap}
theorem ok_defX {x qual : Str} {st : Stmt} {f : Addr} {fd : FuncData} {N ps : List Str} {k : Nat} {R : List D → Out → Prop} {t : WX → TS} (F : Fun K x qual st f fd) (S : FnScope N ps (defScope st)) (hl : ∀ xs out, R xs out → xs.length = ps.length)
    (hd : ∀ (cdv : Value) (A : Around) (outer : List Env) (s : Shared) (H : Hp) (E : XK), Room k (A.deeper (envOfC qual (defScope st) s.heap.objs.size f cdv)) → PSs (cxOf (L2.CX P w) P w K mg base N qual (defScope st) f cdv A outer s H E) (defBody st) (t fun cls d _ H => E cls d H))
    (hs : ∀ (E : WX) xs out, R xs out → SDef K E (t E) (slots N.length xs) out) : FnOk P w K mg base (L2.CX P w) (k + 1) f fd ps (spD K R) :=
  F.okX S (spD_len hl) fun cdv A outer s H vs Q E hr h => ⟨t _, hd cdv A outer s H E hr, body_run h (hs _)⟩
theorem spI_len {C : Addr} {R : List D → Out → Prop} {n : Nat} (h : ∀ xs out, R xs out → xs.length + 1 = n) : ∀ vs H Q E, spI K C R vs H Q E → vs.length = n := fun vs H Q E ⟨G, x, dx, us, xs, out, e0, _, _, _, _, r, hr, _⟩ => by
  rw [e0, List.length_cons, ← r.length]; exact h xs out hr
theorem ok_init {C : Addr} {x qual : Str} {st : Stmt} {f : Addr} {fd : FuncData} {N ps : List Str} {k : Nat} {R : List D → Out → Prop} {t : TS} (F : Fun K x qual st f fd) (S : FnScope N ps (defScope st)) (hl : ∀ xs out, R xs out → xs.length + 1 = ps.length) (hN : 0 < N.length)
    (hd : ∀ (cdv : Value) (A : Around) (outer : List Env) (s : Shared) (H : Hp) (E : XK), Room k (A.deeper (envOfC qual (defScope st) s.heap.objs.size f cdv)) → PSs (cxOf CX0 P w K mg base N qual (defScope st) f cdv A outer s H E).nox (defBody st) t)
    (hs : ∀ (E : WX) x xs out, R xs out → SDefI K E x C t (slotsI N.length x C xs) out) : FnOk P w K mg base CX0 (k + 1) f fd ps (spI K C R) :=
  F.ok S (spI_len hl) fun cdv A outer s H vs Q E hr h => ⟨t, hd cdv A outer s H E hr, init_run hN h (hs _)⟩
theorem ok_initX {C : Addr} {x qual : Str} {st : Stmt} {f : Addr} {fd : FuncData} {N ps : List Str} {k : Nat} {R : List D → Out → Prop} {t : WX → TS} (F : Fun K x qual st f fd) (S : FnScope N ps (defScope st)) (hl : ∀ xs out, R xs out → xs.length + 1 = ps.length) (hN : 0 < N.length)
    (hd : ∀ (cdv : Value) (A : Around) (outer : List Env) (s : Shared) (H : Hp) (E : XK), Room k (A.deeper (envOfC qual (defScope st) s.heap.objs.size f cdv)) → PSs (cxOf (L2.CX P w) P w K mg base N qual (defScope st) f cdv A outer s H E) (defBody st) (t fun cls d _ H => E cls d H))
    (hs : ∀ (E : WX) x xs out, R xs out → SDefI K E x C (t E) (slotsI N.length x C xs) out) : FnOk P w K mg base (L2.CX P w) (k + 1) f fd ps (spI K C R) :=
  F.okX S (spI_len hl) fun cdv A outer s H vs Q E hr h => ⟨t _, hd cdv A outer s H E hr, init_run hN h (hs _)⟩
end
end Far
/-! count, index, tuples repeated, lists lent, one of two picked. -/
namespace Far
open PySem L2 PySem.Spec PyProof.Rows
/-! ### count -/
def cntV (y : V) (ys : List V) : Nat := ys.countP fun z => eqV z y
def rCnt (K : PySem.W.Frag) : V → List V → Hp → VK → Prop := fun x xs H Q => ∃ (a : Addr) (ys : List V) (y : V), x = V.ref a ∧ xs = [y] ∧ SqL K H a ys ∧ flatV y = true ∧ ys.all flatV = true ∧ Q (.int (cntV y ys : Nat)) H
def rCntT (K : PySem.W.Frag) : V → List V → Hp → VK → Prop := fun x xs H Q => ∃ (a : Addr) (ys : List V) (y : V), x = V.ref a ∧ xs = [y] ∧ SqT K H a ys ∧ flatV y = true ∧ ys.all flatV = true ∧ Q (.int (cntV y ys : Nat)) H
section
variable {X : Cx}
theorem cnt_rel {y : V} : ∀ {ys : List V} {us : List Value}, Vals ys us → ys.all flatV = true → us.countP (eqU y) = cntV y ys
  | _, _, .nil, _ => rfl
  | z :: ys, u :: us, .cons r t, f => by
    rw [List.all_cons, Bool.and_eq_true] at f
    unfold cntV
    rw [List.countP_cons, List.countP_cons, eqU_of r f.1]
    have ih := cnt_rel (y := y) t f.2
    unfold cntV at ih
    rw [ih]
theorem mt_count : MtR X "list.count" (rCnt X.K) := by
  intro pins s σ H x xs v us Q I rx rxs h
  obtain ⟨a, ys, y, rfl, rfl, hs, fy, fys, q⟩ := h
  cases rx
  cases rxs with
  | cons ry rt =>
    rename_i uy ut
    cases rt
    obtain ⟨its, rv, ⟨⟨cls, dd, data, sl⟩, n, ho, hc, hdn, hd⟩, hlen⟩ := I.list hs
    simp only at hc hd
    subst hc hd
    refine call_meets PySem.F.slot_list_count ⟨_, ho, rfl⟩ PySem.F.entry_list_count (PySem.F.args_list_count_2 _ _) (SeqAt.list_countAt a its.toArray n dd sl uy (eqU y)) ⟨ho, fun u' hu' => mem_eqAt ry fy rv fys u' (by simpa using hu'), ?_⟩
    have e : its.toArray.toList.countP (eqU y) = cntV y ys := by simpa using cnt_rel (y := y) rv fys
    rw [e]
    exact ⟨.int (cntV y ys : Nat), H, I.tok _, ⟨_, rfl⟩, q⟩
theorem mt_countT : MtR X "tuple.count" (rCntT X.K) := by
  intro pins s σ H x xs v us Q I rx rxs h
  obtain ⟨a, ys, y, rfl, rfl, hs, fy, fys, q⟩ := h
  cases rx
  cases rxs with
  | cons ry rt =>
    rename_i uy ut
    cases rt
    obtain ⟨its, rv, ⟨⟨cls, dd, data, sl⟩, ho, hc, n, hd⟩, hlen⟩ := I.tuple hs
    simp only at hc hd
    subst hc hd
    refine call_meets PySem.F.slot_tuple_count ⟨_, ho, rfl⟩ PySem.F.entry_tuple_count (PySem.F.args_tuple_count_2 _ _) (SeqAt.tuple_countAt a its.toArray n dd sl uy (eqU y)) ⟨ho, fun u' hu' => mem_eqAt ry fy rv fys u' (by simpa using hu'), ?_⟩
    have e : its.toArray.toList.countP (eqU y) = cntV y ys := by simpa using cnt_rel (y := y) rv fys
    rw [e]
    exact ⟨.int (cntV y ys : Nat), H, I.tok _, ⟨_, rfl⟩, q⟩
end
/-! ### over data -/
def flatD : D → Bool
  | .non => true | .bl _ => true | .int _ => true | .str _ => true | _ => false
def vOf : D → V
  | .bl b => .bl b | .int i => .int i | .str x => .str x | _ => .non
def eqF (x y : D) : Bool := eqV (vOf x) (vOf y)
section
variable {K : PySem.W.Frag} {δ : List S} {to te ta tb ti : TE} {t : TA} {x y z : D} {xs ys : List D}
theorem flat_rp {G : Hp} {v : V} (h : flatD x = true) (r : Rp K G x v) : v = vOf x ∧ flatV v = true := by
  cases r <;> first | exact ⟨rfl, rfl⟩ | simp [flatD] at h
theorem flat_rpl {G : Hp} : ∀ {xs : List D} {vs : List V}, xs.all flatD = true → RpL K G xs vs → vs = xs.map vOf ∧ vs.all flatV = true
  | [], _, _, .nil => ⟨rfl, rfl⟩
  | x :: xs, _, h, .cons r0 r => by
    rw [List.all_cons, Bool.and_eq_true] at h
    obtain ⟨e1, f1⟩ := flat_rp h.1 r0
    obtain ⟨e2, f2⟩ := flat_rpl h.2 r
    rw [e1] at f1
    rw [e2] at f2
    exact ⟨by rw [e1, e2]; rfl, by rw [e1, e2, List.all_cons, f1, f2]; rfl⟩
theorem ev_cnt (h : EV K to δ (.d (.lst xs))) (ha : EA K t δ [y]) (fy : flatD y = true) (fx : xs.all flatD = true) : EV K (tBM K "list" (rCnt K) to t) δ (.d (.int (xs.countP fun z => eqF z y : Nat))) := by
  intro He Ge H τo τs σ hl ok Q q
  refine h He Ge H τo τs σ hl ok _ fun v H1 ok1 => ?_
  obtain ⟨G, ok1⟩ := ok1
  obtain ⟨_, e1, r1⟩ := ok1.top
  cases e1
  cases r1 with
  | lst hp r =>
    refine ⟨.inl ⟨rfl, _, SqL.of (ok1.gh _ _ hp)⟩, ?_⟩
    refine ha He Ge H1 (some _ :: τo) (.d (.lst xs) :: τs) σ (by simp [hl]) ⟨G, ok1⟩ _ fun us H2 G2 ok2 r2 => ?_
    obtain ⟨_, e2, r3⟩ := ok2.top
    cases e2
    cases r3 with
    | lst hp3 r3 =>
      cases r2 with
      | cons ry rn =>
        cases rn
        obtain ⟨e3, f3⟩ := flat_rp fy ry
        obtain ⟨e4, f4⟩ := flat_rpl fx r3
        refine ⟨_, _, _, rfl, rfl, SqL.of (ok2.gh _ _ hp3), f3, f4, ?_⟩
        have e : cntV (vOf y) (xs.map vOf) = xs.countP fun z => eqF z y := by
          unfold cntV eqF
          rw [List.countP_map]; rfl
        rw [e3, e4, e]
        exact q _ _ ⟨G2, ok2.pop.pushD .int⟩
theorem ev_idx {j : Nat} (h : EV K to δ (.d (.lst xs))) (ha : EA K t δ [y]) (fy : flatD y = true) (fx : xs.all flatD = true) (hz : xs[j]? = some z) (ez : eqF z y = true) (hno : ∀ (m : Nat) (z' : D), m < j → xs[m]? = some z' → eqF z' y = false) :
    EV K (tBM K "list" (rIndex K) to t) δ (.d (.int (j : Nat))) := by
  intro He Ge H τo τs σ hl ok Q q
  refine h He Ge H τo τs σ hl ok _ fun v H1 ok1 => ?_
  obtain ⟨G, ok1⟩ := ok1
  obtain ⟨_, e1, r1⟩ := ok1.top
  cases e1
  cases r1 with
  | lst hp r =>
    refine ⟨.inl ⟨rfl, _, SqL.of (ok1.gh _ _ hp)⟩, ?_⟩
    refine ha He Ge H1 (some _ :: τo) (.d (.lst xs) :: τs) σ (by simp [hl]) ⟨G, ok1⟩ _ fun us H2 G2 ok2 r2 => ?_
    obtain ⟨_, e2, r3⟩ := ok2.top
    cases e2
    cases r3 with
    | lst hp3 r3 =>
      cases r2 with
      | cons ry rn =>
        cases rn
        obtain ⟨e3, f3⟩ := flat_rp fy ry
        obtain ⟨e4, f4⟩ := flat_rpl fx r3
        refine ⟨_, _, _, j, vOf z, rfl, rfl, SqL.of (ok2.gh _ _ hp3), f3, f4, by rw [e4, List.getElem?_map, hz]; rfl, by rw [e3]; exact ez, fun m z' hm hz' => ?_, q _ _ ⟨G2, ok2.pop.pushD .int⟩⟩
        rw [e4, List.getElem?_map] at hz'
        obtain ⟨w, ew, rfl⟩ := Option.map_eq_some_iff.mp hz'
        rw [e3]; exact hno m w hm ew
/-! ### t.count(y), t a tuple without a dict of its own -/
/-- a tuple without a dict of its own -/
def plT (K : PySem.W.Frag) (x : V) (H : Hp) : Prop := ∃ a xs, x = .ref a ∧ SqP K H a xs
theorem plT_is {X : Cx} {pins : List (Addr × Obj)} {σ : L2.St} {H : Hp} {s : Shared} {x : V} {v : Value} (I : Inv X pins σ H s) (r : RelV x v) (h : plT X.K x H) : s.TypeIs v "tuple" ∧ ∀ a, v = .ref a → ∃ ob, s.heap.get? a = some ob ∧ ob.dict = none := by
  obtain ⟨a, xs, rfl, h⟩ := h
  cases r
  obtain ⟨its, _, ht, _⟩ := I.tuple h.t
  refine ⟨ht.typeIs, fun b e => ?_⟩
  cases e
  rcases h with ⟨o, h, _, hd⟩ | ⟨o, its, n, h1, _, hd, _⟩
  · obtain ⟨q, _⟩ := I.hok a _ h
    exact ⟨o, q, hd⟩
  · exact ⟨o, I.kIn a o h1, hd⟩
def tBP (K : PySem.W.Frag) (r : V → List V → Hp → VK → Prop) (to : TE) (t : TA) : TE := fun σ H Q => to σ H fun x H1 => plT K x H1 ∧ t σ H1 fun xs H2 => r x xs H2 Q
section
variable {X : Cx} {name : Str} {id : String} {r : V → List V → Hp → VK → Prop} {o e : Expr} {es : List Expr} {to : TE} {t : TA} {cpos apos : Pos}
theorem pe_bp (pa : PlainAttrs "tuple") (slot : Slot "tuple" name id) (hty : typeOf (.builtin id) = pure (.type "method_descriptor")) (hm : MtR X id r) (ho : PE X o to) (ha : PA X (e :: es) t)
    (hbase : attributeBase o name X.env (eval o X.env) = eval o X.env := by rfl)
    (hfew : ((backTo cpos (starEach (e :: es) X.env)).all (fun x => !x.1) && (backToKw cpos (keywordEach [] X.env)).all (fun x => x.1.isSome)
      && decide ((e :: es).length + ([] : List Keyword).length + (if ([] : List Keyword).isEmpty then 0 else 1) < 30)) = true := by rfl)
    (hline : (apos.endLine == cpos.line) = true := by rfl) (hs : starEach (e :: es) X.env = (false, eval e X.env) :: starEach es X.env := by rfl) (hplain : (backTo cpos (starEach es X.env)).any (·.1) = false := by rfl) :
    PE X (.Call (.Attribute o name apos) (e :: es) [] cpos) (tBP X.K r to t) := by
  refine ⟨fun pins s σ H Q I h => ?_⟩
  refine wpAny_Call_method_late hbase hfew hline rfl (thn (ho.run pins s σ H _ I h) fun v s1 ⟨x, H1, I1, r1, ty, q1⟩ => ?_)
  obtain ⟨h1, h2⟩ := plT_is I1 r1 ty
  refine ⟨"tuple", id, pa, slot, hty, h1, h2, ?_⟩
  have hA := ha.run cpos pins s1 σ H1 _ I1 q1
  rw [hs] at hA ⊢
  refine Calls.callWith_builtin (by show (false || (backTo cpos (starEach es X.env)).any (·.1)) = false; rw [hplain] <;> rfl) (Calls.evalArgs_plain ?_)
  exact thn hA fun us s2 ⟨vs, H2, I2, r2, q2⟩ => hm pins s2 σ H2 x vs v us Q I2 r1 r2 q2
end
theorem ev_cntT (h : EV K to δ (.d (.tup xs))) (ha : EA K t δ [y]) (fy : flatD y = true) (fx : xs.all flatD = true) : EV K (tBP K (rCntT K) to t) δ (.d (.int (xs.countP fun z => eqF z y : Nat))) := by
  intro He Ge H τo τs σ hl ok Q q
  refine h He Ge H τo τs σ hl ok _ fun v H1 ok1 => ?_
  obtain ⟨G, ok1⟩ := ok1
  obtain ⟨_, e1, r1⟩ := ok1.top
  cases e1
  cases r1 with
  | tup hp r =>
    refine ⟨⟨_, _, rfl, ok1.gh.p hp⟩, ?_⟩
    refine ha He Ge H1 (some _ :: τo) (.d (.tup xs) :: τs) σ (by simp [hl]) ⟨G, ok1⟩ _ fun us H2 G2 ok2 r2 => ?_
    obtain ⟨_, e2, r3⟩ := ok2.top
    cases e2
    cases r3 with
    | tup hp3 r3 =>
      cases r2 with
      | cons ry rn =>
        cases rn
        obtain ⟨e3, f3⟩ := flat_rp fy ry
        obtain ⟨e4, f4⟩ := flat_rpl fx r3
        refine ⟨_, _, _, rfl, rfl, ok2.gh.t hp3.t, f3, f4, ?_⟩
        have e : cntV (vOf y) (xs.map vOf) = xs.countP fun z => eqF z y := by
          unfold cntV eqF
          rw [List.countP_map]; rfl
        rw [e3, e4, e]
        exact q _ _ ⟨G2, ok2.pop.pushD .int⟩
/-! ### a list of one's own lent for one expression -/
/-- no list in it -/
inductive Lf : D → Prop
  | non : Lf .non
  | bl (b : Bool) : Lf (.bl b)
  | int (i : Int) : Lf (.int i)
  | str (w : Str) : Lf (.str w)
  | ty (n : String) : Lf (.ty n)
  | cls (a : Addr) : Lf (.cls a)
  | tup {ws : List D} : (∀ w ∈ ws, Lf w) → Lf (.tup ws)
  | ins {C : Addr} {fs : List (Str × D)} : (∀ w ∈ fs, Lf w.2) → Lf (.ins C fs)
def delG (G : Hp) (p : Addr) : Hp := fun b => if b = p then none else G b
theorem delG_of {G : Hp} {p a : Addr} {o : HO} (h : a ≠ p) (e : G a = some o) : delG G p a = some o := by unfold delG; rw [if_neg h]; exact e
theorem delG_ex {G : Hp} {p : Addr} : Ex (delG G p) G := .of fun a o e => by
  unfold delG at e
  split at e
  · cases e
  · exact e
theorem delG_put {A G : Hp} {p : Addr} (e : Ex A G) (n : A p = none) : Ex A (delG G p) := ⟨fun a o h k => delG_of (ne_of_none h n) (e.nt a o h k), fun a ps h => by
  obtain ⟨ps', z⟩ := e.tb a ps h
  exact ⟨ps', delG_of (ne_of_none h n) z⟩⟩
theorem delG_tab {H G : Hp} {p : Addr} {us : List V} (h : TabOk K H G) (hp : G p = some (.lst us)) : TabOk K H (delG G p) := h.sub fun c q e => delG_of (fun z => by rw [z, hp] at e; cases e) e
theorem Rp.del {G : Hp} {p : Addr} {us : List V} (hp : G p = some (.lst us)) : ∀ {x : D} {v : V}, Lf x → Rp K G x v → Rp K (delG G p) x v := by
  have main : ∀ (n : Nat) (x : D) (v : V), sizeOf x < n → Lf x → Rp K G x v → Rp K (delG G p) x v := by
    intro n
    induction n with
    | zero => intro x v h; omega
    | succ n ih =>
      intro x v hn l r
      cases r with
      | non => exact .non
      | bl => exact .bl
      | int => exact .int
      | str => exact .str
      | ty => exact .ty
      | cls => exact .cls
      | tup h r =>
        cases l with
        | tup l =>
          have hne : ∀ {a : Addr} {vs : List V}, SqP K G a vs → SqP K (delG G p) a vs := fun {a vs} h => by
            rcases h with ⟨o, h, h2⟩ | h
            · exact .inl ⟨o, delG_of (fun z => by rw [z, hp] at h; cases h) h, h2⟩
            · exact .inr h
          refine .tup (hne h) ?_
          rename_i a vs xs
          have sub : ∀ (ys : List D) (ws : List V), (∀ y ∈ ys, sizeOf y < n) → (∀ y ∈ ys, Lf y) → RpL K G ys ws → RpL K (delG G p) ys ws := by
            intro ys
            induction ys with
            | nil => intro ws _ _ r; cases r; exact .nil
            | cons y ys ih2 =>
              intro ws h1 h2 r
              cases r with
              | cons r0 r => exact .cons (ih y _ (h1 y List.mem_cons_self) (h2 y List.mem_cons_self) r0) (ih2 _ (fun z hz => h1 z (List.mem_cons_of_mem _ hz)) (fun z hz => h2 z (List.mem_cons_of_mem _ hz)) r)
          refine sub xs vs (fun y hy => ?_) l r
          have := List.sizeOf_lt_of_mem hy
          have e : sizeOf (D.tup xs) = 1 + sizeOf xs := by simp
          omega
      | lam h r => cases l
      | utp h r => cases l
      | lst h r => cases l
      | scr h r => cases l
      | ins h r =>
        cases l with
        | ins l =>
          rename_i a dx C fs gs
          refine .ins (delG_of (fun z => by rw [z, hp] at h; cases h) h) ?_
          have sub : ∀ (ys : List (Str × D)) (ws : List (Str × V)), (∀ y ∈ ys, sizeOf y < n) → (∀ y ∈ ys, Lf y.2) → RpF K G ys ws → RpF K (delG G p) ys ws := by
            intro ys
            induction ys with
            | nil => intro ws _ _ r; cases r; exact .nil
            | cons y ys ih2 =>
              intro ws h1 h2 r
              cases r with
              | @cons ff xx _ _ _ r0 r =>
                refine .cons (ih _ _ ?_ (h2 (ff, xx) List.mem_cons_self) r0) (ih2 _ (fun z hz => h1 z (List.mem_cons_of_mem _ hz)) (fun z hz => h2 z (List.mem_cons_of_mem _ hz)) r)
                have := h1 (ff, xx) List.mem_cons_self
                have e : sizeOf (ff, xx) = 1 + sizeOf ff + sizeOf xx := by simp
                omega
          refine sub fs gs (fun y hy => ?_) l r
          have := List.sizeOf_lt_of_mem hy
          have e : sizeOf (D.ins C fs) = 1 + sizeOf C + sizeOf fs := by simp
          omega
      | dK h r => cases l
      | dO h => cases l
      | exc0 h => cases l
      | exc1 h h2 r n => cases l
      | exo h => cases l
  exact fun {x v} l r => main _ x v (Nat.lt_succ_self _) l r
theorem RpL.del {G : Hp} {p : Addr} {us : List V} (hp : G p = some (.lst us)) : ∀ {xs : List D} {vs : List V}, (∀ x ∈ xs, Lf x) → RpL K G xs vs → RpL K (delG G p) xs vs
  | _, _, _, .nil => .nil
  | _, _, l, .cons r0 r => .cons (r0.del hp (l _ List.mem_cons_self)) (r.del hp fun x hx => l x (List.mem_cons_of_mem _ hx))
/-- what the other lists of one's own hold while one is lent: no lists; no instance of one's own -/
def Lend (δ : List S) (i : Nat) : Prop := ∀ (k : Nat) (s : S), k ≠ i → δ[k]? = some s → match s with | .own ys => ∀ y ∈ ys, Lf y | .okd _ => False | .oko _ => False | .ob _ _ _ => False | _ => True
theorem ev_lend {i : Nat} (hi : δ[i]? = some (.own xs)) (h : EV K te (δ.set i (.d (.lst xs))) (.d x)) (lx : Lf x) (le : Lend δ i) {He Ge H : Hp} {σ : L2.St} (ok : OK K He Ge H σ δ) {Q : VK} (q : ∀ v H', OK K He Ge H' (some v :: σ) (.d x :: δ) → Q v H') : te σ H Q := by
  obtain ⟨G, ok⟩ := ok
  obtain ⟨o, eo, p, vs, rfl, h1, h2, h3, r⟩ := ok.sl i _ hi
  have hlt : i < δ.length := (List.getElem?_eq_some_iff.mp hi).1
  have g1 : Ex G (upd G p (.lst vs)) := .new h2
  have ok1 : OKG K He (upd G p (.lst vs)) H (upd G p (.lst vs)) σ (δ.set i (.d (.lst xs))) := by
    refine ⟨.refl _, ok.gh.lay h3, ok.he, ⟨fun _ _ z => z, (ok.nc.t0.mono (fun _ _ e => e) ok.ge).mono (fun _ _ e => e) g1, ok.nc.tb.mono (fun _ _ e => e) g1⟩, fun j s hj => ?_, fun j k s t p' hjk hj hk o1 o2 e1 e2 => ?_⟩
    · by_cases z : i = j
      · subst z
        rw [List.getElem?_set_self hlt] at hj; cases hj
        exact ⟨_, eo, _, rfl, .lst upd_same (r.mono g1)⟩
      · rw [List.getElem?_set_ne z] at hj
        obtain ⟨o, e, k⟩ := ok.sl j s hj
        refine ⟨o, e, ?_⟩
        cases s with
        | un => trivial
        | ot _ _ _ => trivial
        | d x => obtain ⟨v, e1, r'⟩ := k; exact ⟨v, e1, r'.mono g1⟩
        | own ys =>
          obtain ⟨p2, vs2, rfl, k1, k2, k3, r2⟩ := k
          have ne : p2 ≠ p := fun y => ok.ne i j _ _ p z hi hj rfl rfl eo (by rw [← y]; exact e)
          exact ⟨p2, vs2, rfl, k1, by rw [upd_ne ne]; exact k2, k3, r2.mono g1⟩
        | okd ys => exact (le j _ (Ne.symm z) hj).elim
        | oko ys => exact (le j _ (Ne.symm z) hj).elim
        | ob a C fs => exact (le j _ (Ne.symm z) hj).elim
    · have un : ∀ (m : Nat) (s : S), (δ.set i (.d (.lst xs)))[m]? = some s → owned s = true → δ[m]? = some s := fun m s q1 q2 => by
        by_cases z : i = m
        · subst z; rw [List.getElem?_set_self hlt] at q1; cases q1; cases q2
        · rw [List.getElem?_set_ne z] at q1; exact q1
      exact ok.ne j k s t p' hjk (un j s hj o1) (un k t hk o2) o1 o2 e1 e2
  refine h He _ H [] [] σ rfl ⟨_, ok1⟩ Q fun v H' ⟨G', ok'⟩ => q v H' ⟨delG G' p, ?_⟩
  have hp' : G' p = some (.lst vs) := ok'.ge p _ upd_same
  have gg : Ex G (delG G' p) := delG_put (g1.trans ok'.ge) h2
  have okp := ok'.pop
  refine OKG.push ⟨ok.ge.trans gg, delG_ex.trans ok'.gh, ok'.he, ⟨fun b b1 b2 => ?_, ok.nc.t0, delG_tab ok'.nc.tb hp'⟩, fun j s hj => ?_, ok.ne⟩ ?_ fun z => nomatch z
  · have z1 := ok.nc b b1 b2
    by_cases z : b = p
    · subst z; unfold delG; rw [if_pos rfl]
    · have z2 := ok'.nc b b1 (by rw [upd_ne z]; exact z1)
      unfold delG; rw [if_neg z]; exact z2
  · by_cases z : i = j
    · subst z
      rw [hi] at hj; cases hj
      refine ⟨_, eo, p, vs, rfl, h1, by unfold delG; rw [if_pos rfl], ok'.gh p _ hp', r.mono gg⟩
    · obtain ⟨o, e, k⟩ := ok.sl j s hj
      refine ⟨o, e, ?_⟩
      cases s with
      | un => trivial
      | ot _ _ _ => trivial
      | d x => obtain ⟨v, e1, r'⟩ := k; exact ⟨v, e1, r'.mono gg⟩
      | own ys =>
        obtain ⟨o', e', p2, vs2, rfl, k1, k2, k3, r2⟩ := okp.sl j (.own ys) (by show (δ.set i (.d (.lst xs)))[j]? = _; rw [List.getElem?_set_ne z]; exact hj)
        have e' : σ[j]? = _ := e'
        rw [e] at e'; cases e'
        exact ⟨p2, vs2, rfl, k1, by unfold delG; split <;> first | rfl | exact k2, k3, r2.del hp' (le j _ (Ne.symm z) hj)⟩
      | okd ys => exact (le j _ (Ne.symm z) hj).elim
      | oko ys => exact (le j _ (Ne.symm z) hj).elim
      | ob a C fs => exact (le j _ (Ne.symm z) hj).elim
  · obtain ⟨w, e, rw_⟩ := ok'.top
    cases e
    exact ⟨v, rfl, rw_.del hp' lx⟩
variable {W : WX} {N B Ct : List S → Prop} {Rt : S → List S → Prop} {Xc : List S → Addr → List (Str × D) → Prop} {tt uu : TS} {c : TT} {b : Bool}
theorem sd_setL {i j : Nat} (hi : δ[i]? = some (.own xs)) (h : EV K te (δ.set i (.d (.lst xs))) (.d x)) (lx : Lf x) (le : Lend δ i) (hj : j < δ.length) (n : N (δ.set j (.d x))) : SD K W (tAsg te (gName j)) δ N Rt B Ct Xc := fun He Ge H σ Dn ok nx r bk ct xx =>
  ev_lend hi h lx le ok fun v H' ⟨G', ok'⟩ => nx _ _ _ ⟨G', ok'.store hj⟩ n
theorem sd_dropL {i : Nat} (hi : δ[i]? = some (.own xs)) (h : EV K te (δ.set i (.d (.lst xs))) (.d x)) (lx : Lf x) (le : Lend δ i) (n : N δ) : SD K W (tDrop te) δ N Rt B Ct Xc := fun He Ge H σ Dn ok nx r bk ct xx =>
  ev_lend hi h lx le ok fun v H' ⟨G', ok'⟩ => nx _ _ _ ⟨G', ok'.pop⟩ n
/-! ### one of a display picked, with a list of one's own in it -/
theorem OKG.nip {He Ge H G : Hp} {σ : L2.St} {o1 o2 : Option V} {s1 s2 : S} (h : OKG K He Ge H G (o1 :: o2 :: σ) (s1 :: s2 :: δ)) : OKG K He Ge H G (o1 :: σ) (s1 :: δ) :=
  h.pop.pop.push h.top fun ho j t p e hj ho2 eσ => h.ne 0 (j + 2) s1 t p (by omega) rfl (by simpa using hj) ho ho2 (by rw [e]; rfl) (by simpa using eσ)
/-- an expression of plain numbers: the heap stays -/
def PV (K : PySem.W.Frag) (te : TE) (δ : List S) (x : D) : Prop := ∀ (He Ge H G : Hp) (τo : L2.St) (τs : List S) (σ : L2.St), τo.length = τs.length → OKG K He Ge H G (τo ++ σ) (τs ++ δ) → ∀ Q : VK, (∀ v, Rp K G x v → Q v H) → te σ H Q
def RP2 (K : PySem.W.Frag) (r : R2) (x y z : D) : Prop := ∀ (H G : Hp) (v u : V), Rp K G x v → Rp K G y u → ∀ Q : VK, (∀ w, Rp K G z w → Q w H) → r v u H Q
theorem pv_var {i : Nat} (h : δ[i]? = some (.d x)) : PV K (tVar i) δ x := by
  intro He Ge H G τo τs σ hl ok Q q
  obtain ⟨e1, e2⟩ := len_append (d := δ) (c := σ) hl i
  obtain ⟨o, eo, v, rfl, r⟩ := ok.sl (τs.length + i) _ (e1.trans h)
  exact ⟨v, e2.symm.trans eo, q v r⟩
theorem pv_int {i : Int} : PV K (tC (.int i)) δ (.int i) := fun He Ge H G τo τs σ hl ok Q q => q _ .int
theorem pv_op {r : R2} (ha : PV K ta δ x) (hb : PV K tb δ y) (hr : RP2 K r x y z) : PV K (tOp r ta tb) δ z := fun He Ge H G τo τs σ hl ok Q q =>
  ha He Ge H G τo τs σ hl ok _ fun v r1 => hb He Ge H G τo τs σ hl ok _ fun u r2 => hr H G v u r1 r2 Q q
theorem rp_mod {i j : Int} (h : 0 < j) : RP2 K (rI (fun _ j => 0 < j) fun i j => .int (i % j)) (.int i) (.int j) (.int (i % j)) := by
  intro H G v u r1 r2 Q q
  cases r1; cases r2; exact ⟨_, _, rfl, rfl, h, q _ .int⟩
theorem rp_fdiv {i j : Int} (h : CDivW i j) : RP2 K (rI CDivW fun i j => .int (i / j)) (.int i) (.int j) (.int (i / j)) := by
  intro H G v u r1 r2 Q q
  cases r1; cases r2; exact ⟨_, _, rfl, rfl, h, q _ .int⟩
theorem ev_pickR (ha : EV K ta δ (.d x)) (hb : EV K tb δ (.own ys)) {j : Int} (hi : PV K ti δ (.int j)) (hj : j = 1) : EV K (tOp (rIx K) (tLst (tCons ta (tCons tb tNil))) ti) δ (.own ys) := by
  subst hj
  intro He Ge H τo τs σ hl ok Q q
  refine ha He Ge H τo τs σ hl ok _ fun v H1 ok1 => ?_
  refine hb He Ge H1 (some v :: τo) (.d x :: τs) σ (by simp [hl]) ok1 _ fun u H2 ⟨G2, ok2⟩ => ⟨?_, fun p hp => ?_⟩
  · rw [sizeLine_eq]; show (2 : Nat) ≤ _; decide
  · have ok3 : OKG K He Ge (upd H2 p (.lst [v, u])) G2 (some u :: some v :: (τo ++ σ)) (.own ys :: .d x :: (τs ++ δ)) := ok2.newH hp
    refine hi He Ge _ G2 (some u :: some v :: τo) (.own ys :: .d x :: τs) σ (by simp [hl]) ok3 _ fun w rw_ => ?_
    cases rw_
    exact .inl ⟨p, [v, u], 1, u, rfl, rfl, SqL.of upd_same, rfl, q u _ ⟨G2, ok3.nip⟩⟩
theorem ev_pickL (ha : EV K ta δ (.own ys)) (hb : EV K tb δ (.d x)) {j : Int} (hi : PV K ti δ (.int j)) (hj : j = 0) : EV K (tOp (rIx K) (tLst (tCons ta (tCons tb tNil))) ti) δ (.own ys) := by
  subst hj
  intro He Ge H τo τs σ hl ok Q q
  refine ha He Ge H τo τs σ hl ok _ fun v H1 ok1 => ?_
  refine hb He Ge H1 (some v :: τo) (.own ys :: τs) σ (by simp [hl]) ok1 _ fun u H2 ⟨G2, ok2⟩ => ⟨?_, fun p hp => ?_⟩
  · rw [sizeLine_eq]; show (2 : Nat) ≤ _; decide
  · have ok3 : OKG K He Ge (upd H2 p (.lst [v, u])) G2 (some u :: some v :: (τo ++ σ)) (.d x :: .own ys :: (τs ++ δ)) := ok2.newH hp
    refine hi He Ge _ G2 (some u :: some v :: τo) (.d x :: .own ys :: τs) σ (by simp [hl]) ok3 _ fun w rw_ => ?_
    cases rw_
    exact .inl ⟨p, [v, u], 0, v, rfl, rfl, SqL.of upd_same, rfl, q v _ ⟨G2, ok3.pop⟩⟩
end
/-! ### one of two ways, empty promises -/
def tEither (t u : TE) : TE := fun σ H Q => t σ H Q ∨ u σ H Q
theorem pe_either {X : Cx} {e : Expr} {t u : TE} (h1 : PE X e t) (h2 : PE X e u) : PE X e (tEither t u) := ⟨fun pins s σ H Q I h => h.elim (h1.run pins s σ H Q I) (h2.run pins s σ H Q I)⟩
theorem pass0C {X : Cx} {σ : L2.St} : PassesAt CX0 X σ E0 := fun pins H s e s' I c => pass0 pins σ H s e s' I c
section
variable {K : PySem.W.Frag} {δ : List S} {t u : TE} {s : S} {c : Addr} {cf : List (Str × D)} {E : L2.St → XK}
theorem ev_eL (h : EV K t δ s) : EV K (tEither t u) δ s := fun He Ge H τo τs σ hl ok Q q => .inl (h He Ge H τo τs σ hl ok Q q)
theorem ev_eR (h : EV K u δ s) : EV K (tEither t u) δ s := fun He Ge H τo τs σ hl ok Q q => .inr (h He Ge H τo τs σ hl ok Q q)
theorem ex_eL (h : EX K E t δ c cf) : EX K E (tEither t u) δ c cf := fun He Ge H τo τs σ hl ok k Q => .inl (h He Ge H τo τs σ hl ok k Q)
theorem ex_eR (h : EX K E u δ c cf) : EX K E (tEither t u) δ c cf := fun He Ge H τo τs σ hl ok k Q => .inr (h He Ge H τo τs σ hl ok k Q)
end
theorem fnok_none {P : Program} {w : World} {K : PySem.W.Frag} {mg : Str → Option Value} {base : Heap} {CX : CXT} {k : Nat} {f : Addr} {fd : FuncData} {ps : List Str} : FnOk P w K mg base CX k f fd ps (spD K fun _ _ => False) :=
  ⟨fun vs H Q E ⟨_, _, _, _, _, z, _⟩ => z.elim, fun A outer s H args us vs Q E hr he hb hv ⟨_, _, _, _, _, z, _⟩ => z.elim⟩
/-- classes named one by one -/
inductive ClsL : List D → List Value → Prop
  | nil : ClsL [] []
  | ty {n : String} {cs : List D} {us : List Value} : ClsL cs us → ClsL (.ty n :: cs) (.type n :: us)
  | cls {a : Addr} {cs : List D} {us : List Value} : ClsL cs us → ClsL (.cls a :: cs) (.ref a :: us)
theorem ClsL.mapM {cs : List D} {us : List Value} (h : ClsL cs us) : cs.mapM clsD = some us := by
  induction h with
  | nil => rfl
  | ty _ ih => rw [List.mapM_cons, ih]; rfl
  | cls _ ih => rw [List.mapM_cons, ih]; rfl
theorem is_anyL {K : PySem.W.Frag} {x : D} {b : Bool} {t : Value} {cs : List D} {us : List Value} (hk : Kin K x t) (hc : ClsL cs us) (h : PySem.W.kitAny K t us = some b) : RVN K (rIsU K) [x, .tup cs] (.d (.bl b)) := is_anyT hk hc.mapM h
theorem kitAny_t {K : PySem.W.Frag} {t c : Value} {cs : List Value} (h : PySem.W.kitOne K t c = some true) : PySem.W.kitAny K t (c :: cs) = some true := kitAny_cons (r := true) h (fun z => nomatch z) fun _ => rfl
theorem kitAny_f {K : PySem.W.Frag} {t c : Value} {cs : List Value} {r : Bool} (h : PySem.W.kitOne K t c = some false) (hr : PySem.W.kitAny K t cs = some r) : PySem.W.kitAny K t (c :: cs) = some r := kitAny_cons h (fun _ => hr) fun z => nomatch z
theorem isU_ty2 {K : PySem.W.Frag} {x : D} {m n : String} (hk : known x = true) (h1 : (kitB (tyN x) m).isSome = true) (h2 : (kitB (tyN x) n).isSome = true) : RVN K (rIsU K) [x, .tup [.ty m, .ty n]] (.d (.bl (isTy x m || isTy x n))) := by
  refine is_anyL (.ty hk) (.ty (.ty .nil)) ?_
  have h := kitAny_tys (K := K) (x := x) (ns := [m, n]) (by intro k hk2; simp at hk2; rcases hk2 with rfl | rfl <;> assumption)
  simpa using h
theorem lk_one {f : Str} {x : D} {r : List (Str × D)} : List.lookup f ((f, x) :: r) = some x := by
  have e : (f == f) = true := beq_self_eq_true f
  simp only [List.lookup, e]
theorem lk_none {f g : Str} {x : D} (h : (f == g) = false) : List.lookup f [(g, x)] = none := by simp only [List.lookup, h]
/-- xs[i] = e, xs a list of one's own -/
theorem sd_setIx {K : PySem.W.Frag} {δ : List S} {te ti : TE} {x : D} {xs : List D} {W : WX} {N B Ct : List S → Prop} {Rt : S → List S → Prop} {Xc : List S → Addr → List (Str × D) → Prop} {k m : Nat} {j : Int}
    (hi : δ[k]? = some (.own xs)) (h : EV K te δ (.d x)) (h2 : EV K ti δ (.d (.int j))) (hm : ixN xs.length j = some m) (n : N (δ.set k (.own (xs.set m x)))) : SD K W (tAsg te (gSub (tVar k) ti rSetL)) δ N Rt B Ct Xc := by
  intro He Ge H σ Dn ok nx rt bk ct xx
  refine ev0 h ok fun v H1 ⟨G1, ok1⟩ => ?_
  obtain ⟨o, eo, p, vs, rfl, h1, h2', h3, rv⟩ := ok1.pop.sl k _ hi
  refine ⟨_, eo, ?_⟩
  refine h2 He Ge H1 [some v] [.d x] σ rfl ⟨G1, ok1⟩ _ fun w H2 ⟨G2, ok2⟩ => ?_
  obtain ⟨_, ew, rw_⟩ := ok2.top
  cases ew; cases rw_
  have ok3 : OKG K He Ge H2 G2 (some v :: σ) (.d x :: δ) := ok2.pop
  obtain ⟨o2, eo2, p2, vs2, e2, k1, k2, k3, rv2⟩ := ok3.pop.sl k (.own xs) hi
  rw [eo] at eo2; cases eo2; cases e2
  obtain ⟨_, e4, rx⟩ := ok3.top
  cases e4
  refine ⟨p, vs2, j, m, rfl, rfl, k3, by rw [← rv2.length]; exact hm, ?_⟩
  exact nx _ _ _ ⟨G2, OKG.change ok3.pop hi eo k3 (rv2.set rx m)⟩ n
theorem ev_chain {K : PySem.W.Frag} {δ : List S} {r r' : R2} {ta tb tc : TE} {x y z : D} {a b : Bool} (ha : EV K ta δ (.d x)) (hb : EV K tb δ (.d y)) (h1 : RV2 K r x y (.d (.bl a))) (hc : EV K tc δ (.d z)) (h2 : RV2 K r' y z (.d (.bl b))) : EV K (tChain r r' ta tb tc) δ (.d (.bl (a && b))) := by
  intro He Ge H τo τs σ hl ok Q q
  refine ha He Ge H τo τs σ hl ok _ fun v H1 ok1 => ?_
  refine hb He Ge H1 (some v :: τo) (.d x :: τs) σ (by simp [hl]) ok1 _ fun u H2 ok2 => ?_
  obtain ⟨G2, ok2⟩ := ok2
  obtain ⟨_, e1, r1⟩ := ok2.top
  obtain ⟨_, e2, r2⟩ := ok2.pop.top
  cases e1; cases e2
  refine h1 He Ge H2 G2 _ _ v u ok2 r2 r1 _ fun w H3 ⟨G3, ok3⟩ => ?_
  obtain ⟨_, e3, r3⟩ := ok3.top
  cases e3; cases r3
  refine ⟨a, rfl, ?_⟩
  have ok4 : OKG K He Ge H3 G3 (some u :: some v :: (τo ++ σ)) (.d y :: .d x :: (τs ++ δ)) := ok3.pop
  cases a with
  | false => exact iteF (q _ _ ⟨G3, ok4.pop.pop.pushD .bl⟩)
  | true =>
    refine iteT (hc He Ge H3 (some u :: some v :: τo) (.d y :: .d x :: τs) σ (by simp [hl]) ⟨G3, ok4⟩ _ fun w H4 ⟨G4, ok5⟩ => ?_)
    obtain ⟨_, e5, r5⟩ := ok5.top
    obtain ⟨_, e6, r6⟩ := ok5.pop.top
    cases e5; cases e6
    exact h2 He Ge H4 G4 _ _ u w ok5.pop.pop.pop r6 r5 Q q
/-- a list of one's own in slot i is data from now on -/
theorem OKG.freezeAt {K : PySem.W.Frag} {He Ge H G : Hp} {σ : L2.St} {δ : List S} {i : Nat} {xs : List D} (ok : OKG K He Ge H G σ δ) (hi : δ[i]? = some (.own xs)) : ∃ G', OKG K He Ge H G' σ (δ.set i (.d (.lst xs))) := by
  obtain ⟨o, eo, p, vs, rfl, h1, h2, h3, r⟩ := ok.sl i _ hi
  have hlt : i < δ.length := (List.getElem?_eq_some_iff.mp hi).1
  have g1 : Ex G (upd G p (.lst vs)) := .new h2
  refine ⟨upd G p (.lst vs), ok.ge.trans g1, ok.gh.lay h3, ok.he, ⟨fun b b1 b2 => ?_, ok.nc.t0, ok.nc.tb.mono (fun _ _ e => e) g1⟩, fun j s hj => ?_, fun j k s t p' hjk hj hk o1 o2 e1 e2 => ?_⟩
  · have z : b ≠ p := fun y => b1 (by rw [y]; exact h1)
    rw [upd_ne z]; exact ok.nc b b1 b2
  · by_cases z : i = j
    · subst z
      rw [List.getElem?_set_self hlt] at hj; cases hj
      exact ⟨_, eo, _, rfl, .lst upd_same (r.mono g1)⟩
    · rw [List.getElem?_set_ne z] at hj
      obtain ⟨o, e, k⟩ := ok.sl j s hj
      refine ⟨o, e, ?_⟩
      cases s with
      | un => trivial
      | ot _ _ _ => trivial
      | d x => obtain ⟨v, e1, r'⟩ := k; exact ⟨v, e1, r'.mono g1⟩
      | own ys =>
        obtain ⟨p2, vs2, rfl, k1, k2, k3, r2⟩ := k
        have ne : p2 ≠ p := fun y => ok.ne i j _ _ p z hi hj rfl rfl eo (by rw [← y]; exact e)
        exact ⟨p2, vs2, rfl, k1, by rw [upd_ne ne]; exact k2, k3, r2.mono g1⟩
      | okd ys =>
        obtain ⟨p2, vs2, rfl, k1, k2, k3, r2⟩ := k
        have ne : p2 ≠ p := fun y => ok.ne i j _ _ p z hi hj rfl rfl eo (by rw [← y]; exact e)
        exact ⟨p2, vs2, rfl, k1, by rw [upd_ne ne]; exact k2, k3, r2.mono g1⟩
      | oko ys =>
        obtain ⟨p2, vs2, rfl, k1, k2, k3⟩ := k
        have ne : p2 ≠ p := fun y => ok.ne i j _ _ p z hi hj rfl rfl eo (by rw [← y]; exact e)
        exact ⟨p2, vs2, rfl, k1, by rw [upd_ne ne]; exact k2, k3⟩
      | ob q C fs =>
        obtain ⟨a, dx, gs, rfl, kq, k1, k2, k3, k4, k5, k6, r'⟩ := k
        have n1 : a ≠ p := fun y => by rw [y, h3] at k5; cases k5
        have n2 : dx ≠ p := fun y => by rw [y, h3] at k6; cases k6
        exact ⟨a, dx, gs, rfl, kq, k1, by rw [upd_ne n1]; exact k2, k3, by rw [upd_ne n2]; exact k4, k5, k6, r'.mono g1⟩
  · have un : ∀ (m : Nat) (s : S), (δ.set i (.d (.lst xs)))[m]? = some s → owned s = true → δ[m]? = some s := fun m s q1 q2 => by
      by_cases z : i = m
      · subst z; rw [List.getElem?_set_self hlt] at q1; cases q1; cases q2
      · rw [List.getElem?_set_ne z] at q1; exact q1
    exact ok.ne j k s t p' hjk (un j s hj o1) (un k t hk o2) o1 o2 e1 e2
theorem sd_frzAt {K : PySem.W.Frag} {δ : List S} {xs : List D} {W : WX} {N B Ct : List S → Prop} {Rt : S → List S → Prop} {Xc : List S → Addr → List (Str × D) → Prop} {t : TS} {i : Nat} (hi : δ[i]? = some (.own xs)) (h : SD K W t (δ.set i (.d (.lst xs))) N Rt B Ct Xc) : SD K W t δ N Rt B Ct Xc := fun He Ge H σ Dn ⟨G, ok⟩ nx r bk ct xx => by
  obtain ⟨G', ok'⟩ := ok.freezeAt hi
  exact h He Ge H σ Dn ⟨G', ok'⟩ nx r bk ct xx
theorem sIx_some {n d : Nat} {a : Int} (h0 : 0 ≤ a) : HT.sIx n d (some a) = min a.toNat n := by
  show (if a < 0 then (a + (n : Int)).toNat else min a.toNat n) = _
  rw [if_neg (by omega)]
theorem cut_to {xs : List D} {a : Int} (h0 : 0 ≤ a) : cutD xs none (some a) = xs.take a.toNat := by
  unfold cutD
  rw [sIx_some h0, HT.sIx_none, List.drop_zero, Nat.sub_zero]
  rcases Nat.le_total a.toNat xs.length with h | h
  · rw [Nat.min_eq_left h]
  · rw [Nat.min_eq_right h, List.take_length, List.take_of_length_le h]
theorem cut_from {xs : List D} {a : Int} (h0 : 0 ≤ a) : cutD xs (some a) none = xs.drop a.toNat := by
  unfold cutD
  rw [sIx_some h0, HT.sIx_none]
  rcases Nat.le_total a.toNat xs.length with h | h
  · rw [Nat.min_eq_left h, List.take_of_length_le (by rw [List.length_drop]; exact Nat.le_refl _)]
  · rw [Nat.min_eq_right h, List.drop_length, List.drop_of_length_le h, List.take_nil]
end Far
/-! Loops that carry a fact; a tuple once. -/
namespace Far
open PySem L2 PySem.Spec PyProof.Rows
section
variable {K : PySem.W.Frag} {δ : List S} {E : WX} {N B C : List S → Prop} {R : S → List S → Prop} {X : List S → Addr → List (Str × D) → Prop}
theorem sd_forP {α : Type} {ys : List α} {h : α → D} {wi : TI} {g : TG} {tb : TS} (P : Nat → Prop) (p0 : P 0) (hi : EI K wi δ (ys.map h)) (I : Nat → List S) (h0 : weak δ (I 0))
    (k : ∀ i y, ys[i]? = some y → P i → ∃ δ2, ET K g (I i) (h y) δ2 ∧ SD K E tb δ2 (fun δ' => P (i + 1) ∧ weak δ' (I (i + 1))) R N (fun δ' => P (i + 1) ∧ weak δ' (I (i + 1))) X) (hd : P ys.length → N (I ys.length)) : SD K E (tFor wi g tb) δ N R B C X := by
  intro He Ge H σ Dn ok nx r bk ct xx
  refine hi He Ge H [] [] σ rfl ok _ fun J H1 G ok1 jis => ?_
  have lus : (ys.map h).length = ys.length := List.length_map ..
  refine ⟨fun i m σ2 H2 => i + m = (ys.map h).length ∧ P i ∧ OK K He G H2 σ2 (I i), ⟨(ys.map h).length, by omega, p0, G, (OKG.ground ok1).weak h0⟩, fun i m σ2 H2 ⟨em, pi, G2, ok2⟩ => ?_⟩
  obtain ⟨j1, j2, j3⟩ := jis H2 G2 ok2.ge ok2.gh
  rcases Nat.lt_or_ge i (ys.map h).length with hlt | hge
  · have hy : i < ys.length := by omega
    have ey : ys[i]? = some ys[i] := List.getElem?_eq_getElem hy
    have ex : (ys.map h)[i]? = some (h ys[i]) := by rw [List.getElem?_map, ey]; rfl
    refine .inr ⟨j1 i hlt, fun σ3 H3 => P (i + 1) ∧ OK K He G H3 σ3 (I (i + 1)), fun σ3 H3 k3 => ⟨m - 1, by omega, by omega, k3⟩, fun x H3 hx => ?_⟩
    obtain ⟨G3, y, g1, g2, g3, g4, ey2, rv⟩ := j2 i x H3 hx hlt
    rw [ex] at ey2
    cases ey2
    replace ok2 := ok2.grow g1 g2 g3 (g4.ok ok2.nc.tb)
    obtain ⟨δ2, kt, kb⟩ := k i ys[i] ey pi
    refine kt He G H3 G3 [] [] σ2 x rfl ok2 rv _ fun σ3 ok3 => ?_
    refine kb He G H3 σ3 _ ⟨G3, ok3⟩ ?_ ?_ ?_ ?_ ?_
    · exact fun δ' σ' H' ⟨G', k'⟩ ⟨p, w⟩ => ⟨p, G', k'.weak w⟩
    · exact fun v s σ' δ' H' ⟨G', k', ot⟩ w => r v s σ' δ' H' ⟨G', ok1.unground k', ot⟩ w
    · exact fun δ' σ' H' ⟨G', k'⟩ w => nx δ' σ' H' ⟨G', ok1.unground k'⟩ w
    · exact fun δ' σ' H' ⟨G', k'⟩ ⟨p, w⟩ => ⟨p, G', k'.weak w⟩
    · exact fun c fs cls d G' σ' δ' H' k' k2 w => xx c fs cls d G' σ' δ' H' (ok1.unground k') k2 w
  · have e : i = ys.length := by omega
    subst e
    exact .inl ⟨j3 _ hge, nx _ _ _ ⟨G2, ok1.unground ok2⟩ (hd pi)⟩
theorem sd_rng2P {m n : Int} {tr : TA} {g : TG} {tb : TS} (P : Nat → Prop) (p0 : P 0) (he : EA K tr δ [.int m, .int n]) (h1 : -(2 ^ 62) ≤ m ∧ m < 2 ^ 62 ∧ -(2 ^ 62) ≤ n ∧ n < 2 ^ 62) (I : Nat → List S) (h0 : weak δ (I 0))
    (k : ∀ i : Nat, m + (i : Int) < n → P i → ∃ δ2, ET K g (I i) (.int (m + (i : Int))) δ2 ∧ SD K E tb δ2 (fun δ' => P (i + 1) ∧ weak δ' (I (i + 1))) R N (fun δ' => P (i + 1) ∧ weak δ' (I (i + 1))) X) (hd : P (n - m).toNat → N (I (n - m).toNat)) : SD K E (tFor (iRngU2 tr) g tb) δ N R B C X := by
  refine sd_forP (ys := List.range (n - m).toNat) (h := fun (i : Nat) => D.int (m + (i : Int))) P p0 (ei_rngU2 he h1) I h0 (fun i y hy pi => ?_) (by rw [List.length_range]; exact hd)
  obtain ⟨q, rfl⟩ := range_get hy
  exact k y (by omega) pi
theorem sd_rng1P {n : Int} {tr : TA} {g : TG} {tb : TS} (P : Nat → Prop) (p0 : P 0) (he : EA K tr δ [.int n]) (h1 : -(2 ^ 62) ≤ n) (h2 : n < 2 ^ 62) (I : Nat → List S) (h0 : weak δ (I 0))
    (k : ∀ i : Nat, (i : Int) < n → P i → ∃ δ2, ET K g (I i) (.int (i : Int)) δ2 ∧ SD K E tb δ2 (fun δ' => P (i + 1) ∧ weak δ' (I (i + 1))) R N (fun δ' => P (i + 1) ∧ weak δ' (I (i + 1))) X) (hd : P n.toNat → N (I n.toNat)) : SD K E (tFor (iRngU1 tr) g tb) δ N R B C X := by
  refine sd_forP (ys := List.range n.toNat) (h := fun (i : Nat) => D.int (i : Int)) P p0 (ei_is (ei_rngU1 he h1 h2) (rg0 _)) I h0 (fun i y hy pi => ?_) (by rw [List.length_range]; exact hd)
  obtain ⟨q, rfl⟩ := range_get hy
  exact k y (by omega) pi
end
end Far
/-! A class without an __init__ of its own, made. -/
namespace Far
open PySem L2 PySem.Spec PyProof.Rows
/-- C(): a new instance and its dict, nothing in it -/
def tNew0 (C : Addr) : TE := fun _ H Q => ∀ x dx, H x = none → H dx = none → dx ≠ x → Q (.ref x) (upd (upd H dx (.own x)) x (.ins C dx []))
/-- what a class must have to be made with object's __init__ -/
structure Mk0 (K : PySem.W.Frag) (C : Addr) : Prop where
  makes : PySem.W.makesIn K C = true
  init : PySem.W.findIn K (.ref C) "__init__" = some (some (.builtin "object.__init__"))
  top : PySem.W.mroIn K C (.type "object") = some true
  kp : PySem.W.keepIn K (.ref C) = true
section
variable {K : PySem.W.Frag} {δ : List S} {C : Addr}
theorem ev_new0 : EV K (tNew0 C) δ (.d (.ins C [])) := by
  intro He Ge H τo τs σ hl ⟨G, ok⟩ Q q
  intro x dx hx hdx ne
  have ok1 := ok.newG (u := .own x) hdx
  have hx1 : upd H dx (.own x) x = none := by rw [upd_ne (Ne.symm ne)]; exact hx
  have ok2 := ok1.newG (u := .ins C dx []) hx1
  exact q _ _ ⟨_, ok2.pushD (.ins upd_same .nil)⟩
end
/-! ### texts -/
def rUpper : V → List V → Hp → VK → Prop := fun x xs H Q => ∃ a, x = .str a ∧ xs = [] ∧ a.length ≤ 5592405 ∧ Q (.str (Txt.upper a)) H
theorem ev_upper {K : PySem.W.Frag} {δ : List S} {to : TE} {a : Str} (h : EV K to δ (.d (.str a))) (hz : a.length ≤ 5592405) : EV K (tM0 rUpper to) δ (.d (.str (Txt.upper a))) := by
  intro He Ge H τo τs σ hl ok Q q
  refine h He Ge H τo τs σ hl ok _ fun v H1 ⟨G, ok1⟩ => ?_
  obtain ⟨_, e1, r1⟩ := ok1.top
  cases e1; cases r1
  exact ⟨⟨a, rfl⟩, a, rfl, rfl, hz, q _ _ ⟨G, ok1.pop.pushD .str⟩⟩
end Far
/-! range(..) of ends of any size, walked; (a, b, ..) without a dict of its own. -/
namespace Far
open PySem L2 PySem.Spec PyProof.Rows
theorem pe_tupP {X : Cx} {es : List Expr} {t : TA} {pos : Pos} {x1 : Nat} (h : PA X es t) : PE X (.Tuple es x1 pos) (tTupP t) := by
  refine ⟨fun pins s σ H Q I hq => ?_⟩
  refine wpAny_Tuple_spliced (thn (h.run pos pins s σ H _ I hq) fun us s1 ⟨xs, H1, I1, r, z, q⟩ => ⟨by rw [← r.length]; exact z, ?_⟩)
  refine ⟨.ref s1.heap.objs.size, _, I1.laid (t' := s1.toks) (o := .frz _ (.tup xs)) (fun b u e => Heap.get?_push_of_some _ e) (Nat.le_refl _) ⟨Heap.get?_push_size _ rfl, z, us, r, ⟨_, Heap.get?_push_size _ rfl, rfl, _, rfl⟩⟩, rfl, ?_⟩
  exact q _ _ (I1.hok.fresh (Nat.le_refl _)) rfl rfl
theorem turn_long {P : Program} {w : World} {K : PySem.W.Frag} {tg : Expr} (it : Addr) (lo : Int) (n : Nat) : Turn P w K tg (Itr lo n) [it] it (fun i h => IsLongIter h it (lo + (i : Nat) * 1) ((n : Int) - (i : Nat)) 1) where
  mem := by simp
  obj := fun i h st b hb => by
    have e : b = it := by simpa using hb
    subst e
    exact ⟨_, st, fun v z => by
      have z' : Data.fields _ = Data.cell v := z
      cases z'⟩
  keep := fun i h h' st k => k it (by simp) _ st
  item := by
    intro X hP hw hK hc i pins s σ H E I hf st hg
    subst hP hw hK
    obtain ⟨f0, f1, f2, f3, f4, f5⟩ := hf it (by simp)
    have W := Walks.longrange (prog := X.prog) (w := X.w) (I.ok.hd hc) it lo 1 n
    refine W.item i s _ _ hg st fun v h' tk hv st' kk => ?_
    obtain ⟨t, rfl⟩ := hv
    have I1 : Inv X pins σ H { s with heap := h', toks := tk } := I.turned (fun b o hb e => kk b o (by simpa using hb) e) f0 f1 f3 f4 f5
    refine ⟨_, rfl, go_of (s := { s with heap := h', toks := tk }) (n := "longrange_iterator") st' rfl rfl (by decide) ⟨.int (lo + i), H, I1, ⟨t, ?_⟩, ⟨rfl, rfl⟩, st', fun b hb => (hf b hb).1⟩⟩
    rw [Int.mul_one]
  done := by
    intro X hP hw hK hc i pins s σ H E I hf st hg
    subst hP hw hK
    obtain ⟨f0, f1, f2, f3, f4, f5⟩ := hf it (by simp)
    exact wpAny_pyNext_long_end (I.ok.hd hc) st (by have : n ≤ i := hg; omega) fun h' eb => ⟨rfl, I.turned (t' := s.toks) (fun b o hb e => eb b o hb e) f0 f1 f3 f4 f5⟩
  self := fun _ _ _ _ _ st h => wpAny_pyIter_longiter st h
section
variable {X : Cx} {tg : Expr}
theorem range_itW {pins : List (Addr × Obj)} {σ : L2.St} {H : Hp} {s : Shared} {R : It → Hp → Prop} {E : Value → Shared → Prop} {lo hi : Int} {t u v : Tok} {tk : Nat} (I : Inv X pins σ H s)
    (q : R (Itr lo (hi - lo).toNat) H) : wpAny (model X.prog X.w) X.A (pyIter (.ref s.heap.objs.size)) (PIE X pins σ tg R) E { s with heap := s.heap.push { cls := .type "range", data := .fields #[.int lo t, .int hi u, .int 1 v] }, toks := tk } := by
  have I1 : Inv X pins σ H { s with heap := s.heap.push { cls := .type "range", data := .fields #[.int lo t, .int hi u, .int 1 v] }, toks := tk } := I.kept fun b o e => Heap.get?_push_of_some _ e
  have e1 : lo + ((0 : Nat) : Int) * 1 = lo := by simp
  have e2 : (((hi - lo).toNat : Nat) : Int) - ((0 : Nat) : Int) = Builtin.Range.rangeSize lo hi 1 := by rw [rangeSize_one]; split <;> omega
  cases hs : Builtin.Range.small lo hi 1 with
  | true =>
    refine wpAny_pyIter_range (IsRange.new ..) hs ?_
    refine ⟨(s.heap.push { cls := .type "range", data := .fields #[.int lo t, .int hi u, .int 1 v] }).objs.size, [(s.heap.push { cls := .type "range", data := .fields #[.int lo t, .int hi u, .int 1 v] }).objs.size], _, _, H, rfl,
      I1.kept (t' := tk) fun b o e => Heap.get?_push_of_some _ e, turn_range _ lo (hi - lo).toNat, ?_, fun b hb => ?_, q⟩
    · show IsRangeIter _ _ (lo + ((0 : Nat) : Int) * 1) ((((hi - lo).toNat : Nat) : Int) - ((0 : Nat) : Int)) 1
      rw [e1, e2]
      exact Heap.get?_push_size _ rfl
    · have e : b = (s.heap.push { cls := .type "range", data := .fields #[.int lo t, .int hi u, .int 1 v] }).objs.size := by simpa using hb
      subst e
      exact I1.fpOk (Nat.le_refl _) (I1.hok.fresh (Nat.le_refl _))
  | false =>
    refine wpAny_pyIter_longrange (IsRange.new ..) hs ?_
    refine ⟨(s.heap.push { cls := .type "range", data := .fields #[.int lo t, .int hi u, .int 1 v] }).objs.size, [(s.heap.push { cls := .type "range", data := .fields #[.int lo t, .int hi u, .int 1 v] }).objs.size], _, _, H, rfl,
      I1.kept (t' := tk) fun b o e => Heap.get?_push_of_some _ e, turn_long _ lo (hi - lo).toNat, ?_, fun b hb => ?_, q⟩
    · show IsLongIter _ _ (lo + ((0 : Nat) : Int) * 1) ((((hi - lo).toNat : Nat) : Int) - ((0 : Nat) : Int)) 1
      rw [e1, e2]
      exact Heap.get?_push_size _ rfl
    · have e : b = (s.heap.push { cls := .type "range", data := .fields #[.int lo t, .int hi u, .int 1 v] }).objs.size := by simpa using hb
      subst e
      exact I1.fpOk (Nat.le_refl _) (I1.hok.fresh (Nat.le_refl _))
def iRngW1 (ta : TA) : TI := fun σ H R => ta σ H fun vs H1 => ∃ j : Int, vs = [.int j] ∧ R (Itr 0 j.toNat) H1
def iRngW2 (ta : TA) : TI := fun σ H R => ta σ H fun vs H1 => ∃ i j : Int, vs = [.int i, .int j] ∧ R (Itr i (j - i).toNat) H1
theorem pi_rangeW1 {a : Expr} {ta : TA} {p pos : Pos} (hg : Gl X "range") (hm : X.mg "range" = none) (ha : PA X [a] ta) (hs : starEach [a] X.env = [(false, eval a X.env)] := by rfl) : PI X tg (.Call (.Name "range" p) [a] [] pos) (iRngW1 ta) := by
  refine ⟨fun pins s σ H R I h => ?_⟩
  refine Call_ (ld_blt I hg hm boot_range (PyProof.Rows.callWith_type1 (thn (ha.run pos pins s σ H _ I h) fun us s1 ⟨vs, H1, I1, r1, q1⟩ => ?_) hs rfl))
  obtain ⟨j, e, q⟩ := q1
  subst e
  cases r1 with
  | cons r rr =>
    cases rr
    obtain ⟨t, rfl⟩ := r
    exact call_range_1 (range_itW I1 (by simpa using q))
theorem pi_rangeW2 {a b : Expr} {ta : TA} {p pos : Pos} (hg : Gl X "range") (hm : X.mg "range" = none) (ha : PA X [a, b] ta) (hs : starEach [a, b] X.env = [(false, eval a X.env), (false, eval b X.env)] := by rfl) (hs2 : starEach [b] X.env = [(false, eval b X.env)] := by rfl) :
    PI X tg (.Call (.Name "range" p) [a, b] [] pos) (iRngW2 ta) := by
  refine ⟨fun pins s σ H R I h => ?_⟩
  refine Call_ (ld_blt I hg hm boot_range (PyProof.Rows.callWith_type1 (thn (ha.run pos pins s σ H _ I h) fun us s1 ⟨vs, H1, I1, r1, q1⟩ => ?_) (by rw [hs, hs2]) (by rw [hs2]; rfl)))
  obtain ⟨i, j, e, q⟩ := q1
  subst e
  cases r1 with
  | cons r rr =>
    cases rr with
    | cons r' rr =>
      cases rr
      obtain ⟨t, rfl⟩ := r
      obtain ⟨t', rfl⟩ := r'
      exact call_range_2 (range_itW I1 q)
end
section
variable {K : PySem.W.Frag} {δ : List S}
theorem ei_rngW1 {n : Int} {tr : TA} (h : EA K tr δ [.int n]) : EI K (iRngW1 tr) δ (rg 0 n.toNat) := by
  intro He Ge H τo τs σ hl ok R q
  refine h He Ge H τo τs σ hl ok _ fun vs H1 G ok1 r1 => ?_
  cases r1 with
  | cons r1 r2 => cases r1; cases r2; exact ⟨n, rfl, q _ H1 G ok1 (jig_of (rp_ints _ _) jis_rng)⟩
theorem ei_rngW2 {m n : Int} {tr : TA} (h : EA K tr δ [.int m, .int n]) : EI K (iRngW2 tr) δ (rg m (n - m).toNat) := by
  intro He Ge H τo τs σ hl ok R q
  refine h He Ge H τo τs σ hl ok _ fun vs H1 G ok1 r1 => ?_
  cases r1 with
  | cons r1 r2 =>
    cases r1
    cases r2 with
    | cons r2 r3 => cases r2; cases r3; exact ⟨m, n, rfl, q _ H1 G ok1 (jig_of (rp_ints _ _) jis_rng)⟩
end
end Far
/-! A run of a def as a plain function over data: each expression and statement is a reading beside a function, with the proof that the reading comes to what the function tells. -/
namespace Far
open PySem L2
/-- what a run tells: nothing, an exception, or an answer -/
inductive M (α : Type) where
  | no | ex (c : Addr) (fs : List (Str × D)) | ok (a : α)
namespace M
variable {α β : Type}
def bind (m : M α) (f : α → M β) : M β := match m with | .no => .no | .ex c fs => .ex c fs | .ok a => f a
/-- .. where what lets out is not covered -/
def bin (m : M α) (f : α → M β) : M β := match m with | .ok a => f a | _ => .no
def of : Option α → M α | some a => .ok a | none => .no
theorem ok_bind {a : α} {f : α → M β} : (M.ok a).bind f = f a := rfl
theorem ex_bind {c : Addr} {fs : List (Str × D)} {f : α → M β} : (M.ex c fs).bind f = .ex c fs := rfl
theorem no_bind {f : α → M β} : M.no.bind f = .no := rfl
theorem ok_bin {a : α} {f : α → M β} : (M.ok a).bin f = f a := rfl
theorem ex_bin {c : Addr} {fs : List (Str × D)} {f : α → M β} : (M.ex c fs).bin f = .no := rfl
theorem no_bin {f : α → M β} : M.no.bin f = .no := rfl
theorem of_some {a : α} : M.of (some a) = .ok a := rfl
theorem of_none : M.of (none : Option α) = .no := rfl
end M
/-- what a statement tells -/
inductive Fl where
  | no | nx (δ : List S) | rt (s : S) | rto (s : S) (δ : List S) | bk (δ : List S) | ct (δ : List S) | ex (δ : List S) (c : Addr) (fs : List (Str × D))
def Fl.next (r : Fl) (f : List S → Fl) : Fl := match r with | .nx δ => f δ | r => r
def Fl.exp {α : Type} (m : M α) (δ : List S) (f : α → Fl) : Fl := match m with | .no => .no | .ex c fs => .ex δ c fs | .ok a => f a
def Fl.exn {α : Type} (m : M α) (f : α → Fl) : Fl := match m with | .ok a => f a | _ => .no
theorem Fl.nx_next {δ : List S} {f : List S → Fl} : (Fl.nx δ).next f = f δ := rfl
theorem Fl.rt_next {s : S} {f : List S → Fl} : (Fl.rt s).next f = .rt s := rfl
theorem Fl.bk_next {δ : List S} {f : List S → Fl} : (Fl.bk δ).next f = .bk δ := rfl
theorem Fl.ct_next {δ : List S} {f : List S → Fl} : (Fl.ct δ).next f = .ct δ := rfl
theorem Fl.ex_next {δ : List S} {c : Addr} {fs : List (Str × D)} {f : List S → Fl} : (Fl.ex δ c fs).next f = .ex δ c fs := rfl
theorem Fl.no_next {f : List S → Fl} : Fl.no.next f = .no := rfl
theorem Fl.ok_exp {α : Type} {a : α} {δ : List S} {f : α → Fl} : Fl.exp (.ok a) δ f = f a := rfl
theorem Fl.ex_exp {α : Type} {c : Addr} {fs : List (Str × D)} {δ : List S} {f : α → Fl} : Fl.exp (.ex c fs) δ f = .ex δ c fs := rfl
theorem Fl.no_exp {α : Type} {δ : List S} {f : α → Fl} : Fl.exp .no δ f = .no := rfl
theorem Fl.ok_exn {α : Type} {a : α} {f : α → Fl} : Fl.exn (.ok a) f = f a := rfl
def toD : S → M D | .d x => .ok x | .own xs => .ok (.lst xs) | .okd kvs => .ok (.dK kvs) | .oko kvs => .ok (.dO kvs) | _ => .no
theorem toD_d {x : D} : toD (.d x) = .ok x := rfl
theorem toD_own {xs : List D} : toD (.own xs) = .ok (.lst xs) := rfl
theorem toD_okd {kvs : List (Key × D)} : toD (.okd kvs) = .ok (.dK kvs) := rfl
section
variable (K : PySem.W.Frag)
def EVF (W : WX) (te : TE) (δ : List S) : M S → Prop
  | .no => True | .ex c fs => EX K (WE W) te δ c fs | .ok s => EV K te δ s
def EAF (W : WX) (ta : TA) (δ : List S) : M (List D) → Prop
  | .no => True | .ex c fs => EXA K (WE W) ta δ c fs | .ok xs => EA K ta δ xs
def EBF (tt : TT) (δ : List S) : M Bool → Prop
  | .ok b => EB K tt δ b | _ => True
def EIF (ti : TI) (δ : List S) : M (List D) → Prop
  | .ok xs => EI K ti δ xs | _ => True
def EOF (to : TO) (δ : List S) : M (Option Int) → Prop
  | .ok o => EO K to δ o | _ => True
def ETF (g : TG) (δ : List S) (x : D) : Option (List S) → Prop
  | some δ' => ET K g δ x δ' | none => True
def ETsF (g : TGs) (δ : List S) (xs : List D) : Option (List S) → Prop
  | some δ' => ETs K g δ xs δ' | none => True
/-- a statement comes to r -/
def SDR (W : WX) (t : TS) (δ : List S) (r : Fl) : Prop := SD K W t δ (fun δ' => r = .nx δ') (fun s δ' => r = .rt s ∨ r = .rto s δ') (fun δ' => r = .bk δ') (fun δ' => r = .ct δ') (fun δ' c fs => r = .ex δ' c fs)
def SDF (W : WX) (t : TS) (δ : List S) : Fl → Prop
  | .no => True | r => SDR K W t δ r
end
variable (Hy : PySem.W.Frag → Prop)
structure SE where
  t : PySem.W.Frag → WX → TE
  f : List S → M S
  ok : ∀ K, Hy K → ∀ W δ, EVF K W (t K W) δ (f δ)
structure SA where
  t : PySem.W.Frag → WX → TA
  f : List S → M (List D)
  ok : ∀ K, Hy K → ∀ W δ, EAF K W (t K W) δ (f δ)
structure ST where
  t : PySem.W.Frag → WX → TT
  f : List S → M Bool
  ok : ∀ K, Hy K → ∀ W δ, EBF K (t K W) δ (f δ)
structure SI where
  t : PySem.W.Frag → WX → TI
  f : List S → M (List D)
  ok : ∀ K, Hy K → ∀ W δ, EIF K (t K W) δ (f δ)
structure SO where
  t : PySem.W.Frag → WX → TO
  f : List S → M (Option Int)
  ok : ∀ K, Hy K → ∀ W δ, EOF K (t K W) δ (f δ)
structure SG where
  t : PySem.W.Frag → WX → TG
  ix : List Nat
  f : List S → D → Option (List S)
  ok : ∀ K, Hy K → ∀ W δ x, ETF K (t K W) δ x (f δ x)
  gok : ∀ K W vs, (∀ i ∈ ix, i ∈ vs) → GOk (t K W) vs
structure SGs where
  t : PySem.W.Frag → WX → TGs
  ix : List Nat
  n : Nat
  f : List S → List D → Option (List S)
  ok : ∀ K, Hy K → ∀ W δ xs, ETsF K (t K W) δ xs (f δ xs)
  len : ∀ δ xs δ', f δ xs = some δ' → xs.length = n
  gok : ∀ K W vs, (∀ i ∈ ix, i ∈ vs) → GsOk (t K W) vs
structure SS where
  t : PySem.W.Frag → WX → TS
  f : List S → Fl
  ok : ∀ K, Hy K → ∀ W δ, SDF K W (t K W) δ (f δ)
/-- an operation of two places -/
structure O2 where
  r : PySem.W.Frag → R2
  f : D → D → Option S
  ok : ∀ K x y s, f x y = some s → RV2 K (r K) x y s
structure O1 where
  r : PySem.W.Frag → V → Hp → VK → Prop
  f : D → Option S
  ok : ∀ K x s, f x = some s → RV1 K (r K) x s
/-- a builtin function -/
structure OB where
  r : PySem.W.Frag → List V → Hp → VK → Prop
  f : List D → Option S
  ok : ∀ K, Hy K → ∀ xs s, f xs = some s → RVN K (r K) xs s
variable {Hy}
section
variable {K : PySem.W.Frag} {δ : List S} {te ta tb : TE} {tr : TA} {x y z : D} {s : S} {xs : List D} {fs : List (Str × D)} {C : Addr} {R : List D → Out → Prop} {E : L2.St → XK} {c : Addr} {cf : List (Str × D)} {W : WX}
theorem ev_toD (h : EV K te δ s) (e : toD s = .ok x) : EV K te δ (.d x) := by
  cases s with
  | d y => cases e; exact h
  | own ys => cases e; exact ev_frz h
  | okd ys => cases e; exact ev_frzK h
  | oko ys => cases e; exact ev_frzO h
  | _ => cases e
theorem toD_ne {s : S} {c : Addr} {fs : List (Str × D)} : toD s ≠ .ex c fs := by cases s <;> exact fun z => nomatch z
/-- an expression's datum -/
def SE.fd (e : SE Hy) (δ : List S) : M D := (e.f δ).bind toD
theorem SE.okD (e : SE Hy) (hk : Hy K) {W : WX} (h : e.fd δ = .ok x) : EV K (e.t K W) δ (.d x) := by
  have z := e.ok K hk W δ
  unfold SE.fd at h
  cases q : e.f δ with
  | no => rw [q] at h; cases h
  | ex c fs => rw [q] at h; cases h
  | ok s => rw [q] at h z; exact ev_toD z h
theorem SE.exD (e : SE Hy) (hk : Hy K) {W : WX} (h : e.fd δ = .ex c cf) : EX K (WE W) (e.t K W) δ c cf := by
  have z := e.ok K hk W δ
  unfold SE.fd at h
  cases q : e.f δ with
  | no => rw [q] at h; cases h
  | ex c fs => rw [q] at h z; cases h; exact z
  | ok s => rw [q] at h; exact (toD_ne h).elim
theorem SE.okS (e : SE Hy) (hk : Hy K) {W : WX} (h : e.f δ = .ok s) : EV K (e.t K W) δ s := by
  have z := e.ok K hk W δ; rw [h] at z; exact z
theorem SE.exS (e : SE Hy) (hk : Hy K) {W : WX} (h : e.f δ = .ex c cf) : EX K (WE W) (e.t K W) δ c cf := by
  have z := e.ok K hk W δ; rw [h] at z; exact z
theorem SA.okA (e : SA Hy) (hk : Hy K) {W : WX} (h : e.f δ = .ok xs) : EA K (e.t K W) δ xs := by
  have z := e.ok K hk W δ; rw [h] at z; exact z
theorem SA.exA (e : SA Hy) (hk : Hy K) {W : WX} (h : e.f δ = .ex c cf) : EXA K (WE W) (e.t K W) δ c cf := by
  have z := e.ok K hk W δ; rw [h] at z; exact z
theorem ST.okB (e : ST Hy) (hk : Hy K) {W : WX} {b : Bool} (h : e.f δ = .ok b) : EB K (e.t K W) δ b := by
  have z := e.ok K hk W δ; rw [h] at z; exact z
theorem SI.okI (e : SI Hy) (hk : Hy K) {W : WX} (h : e.f δ = .ok xs) : EI K (e.t K W) δ xs := by
  have z := e.ok K hk W δ; rw [h] at z; exact z
theorem SO.okO (e : SO Hy) (hk : Hy K) {W : WX} {o : Option Int} (h : e.f δ = .ok o) : EO K (e.t K W) δ o := by
  have z := e.ok K hk W δ; rw [h] at z; exact z
theorem SG.okG (g : SG Hy) (hk : Hy K) {W : WX} {δ' : List S} (h : g.f δ x = some δ') : ET K (g.t K W) δ x δ' := by
  have z := g.ok K hk W δ x; rw [h] at z; exact z
theorem ex_cb {r : List V → Hp → VK → Prop} (h : EXA K E tr δ c cf) : EX K E (tCB r tr) δ c cf := fun He Ge H τo τs σ hl ok k Q => h He Ge H τo τs σ hl ok k _
theorem ex_un {r : V → Hp → VK → Prop} (h : EX K E ta δ c cf) : EX K E (tUn r ta) δ c cf := fun He Ge H τo τs σ hl ok k Q => h He Ge H τo τs σ hl ok k _
theorem ex_tup (h : EXA K E tr δ c cf) : EX K E (tTupP tr) δ c cf := fun He Ge H τo τs σ hl ok k Q => h He Ge H τo τs σ hl ok k _
theorem ex_lst (h : EXA K E tr δ c cf) : EX K E (tLst tr) δ c cf := fun He Ge H τo τs σ hl ok k Q => h He Ge H τo τs σ hl ok k _
theorem ex_fld {f : Str} (h : EX K E ta δ c cf) : EX K E (tFld K ta f) δ c cf := fun He Ge H τo τs σ hl ok k Q => h He Ge H τo τs σ hl ok k _
theorem ex_methO {m : Str} {sp : Sp} {E' : L2.St → XK} (h : EX K E ta δ c cf) : EX K E (tMethS C m sp E' ta tr) δ c cf := fun He Ge H τo τs σ hl ok k Q => h He Ge H τo τs σ hl ok k _
theorem ex_methA {m : Str} {sp : Sp} {E' : L2.St → XK} (h0 : EV K ta δ (.d (.ins C fs))) (hm : fs.lookup m = none) (h : EXA K E tr δ c cf) : EX K E (tMethS C m sp E' ta tr) δ c cf := by
  intro He Ge H τo τs σ hl ok k Q
  refine h0 He Ge H τo τs σ hl ok _ fun v H1 ok1 => ?_
  obtain ⟨G1, ok1⟩ := ok1
  obtain ⟨_, e1, r1⟩ := ok1.top
  cases e1
  cases r1 with
  | ins hp rf =>
    refine ⟨_, _, _, rfl, ok1.gh _ _ hp, rf.nolook hm, ?_⟩
    exact h He Ge H1 (some _ :: τo) (.d (.ins C fs) :: τs) σ (by simp [hl]) ⟨G1, ok1⟩ (fun cls d G' H' ok' x => k cls d G' H' ok'.pop x) _
theorem ex_callL {sp : Sp} {E' : XK} (h : EXA K E tr δ c cf) : EX K E (tCall sp [] E' tr) δ c cf := fun He Ge H τo τs σ hl ok k Q => h He Ge H τo τs σ hl ok k _
theorem ex_callA' {sp : Sp} {E' : L2.St → XK} (h : EXA K E tr δ c cf) : EX K E (tCallS sp E' tr) δ c cf := fun He Ge H τo τs σ hl ok k Q => h He Ge H τo τs σ hl ok k _
theorem ex_makeA' {sp : Sp} {E' : L2.St → XK} (h : EXA K E tr δ c cf) : EX K E (tMakeS C sp E' tr) δ c cf := fun He Ge H τo τs σ hl ok k Q => h He Ge H τo τs σ hl ok k _
theorem ex_if {t : TT} {b : Bool} (h : EB K t δ b) (h1 : b = true → EX K E ta δ c cf) (h2 : b = false → EX K E tb δ c cf) : EX K E (tIf t ta tb) δ c cf := by
  intro He Ge H τo τs σ hl ok k Q
  refine h He Ge H τo τs σ hl ok _ fun H1 ok1 => ?_
  cases b with
  | true => exact iteT (h1 rfl He Ge H1 τo τs σ hl ok1 k Q)
  | false => exact iteF (h2 rfl He Ge H1 τo τs σ hl ok1 k Q)
end
/-! ### variables, constants -/
section
variable {x y : D}
/-- a slot's datum -/
def gt : List S → Nat → M S
  | .d x :: _, 0 => .ok (.d x)
  | _ :: l, i + 1 => gt l i
  | _, _ => .no
theorem gt_0 {l : List S} : gt (.d x :: l) 0 = .ok (.d x) := rfl
theorem gt_s {l : List S} {s : S} {i : Nat} : gt (s :: l) (i + 1) = gt l i := by cases s <;> rfl
theorem gt_ok : ∀ {δ : List S} {i : Nat} {s : S}, gt δ i = .ok s → ∃ x, s = .d x ∧ δ[i]? = some (.d x)
  | [], i, s, h => by cases i <;> cases h
  | a :: l, 0, s, h => by cases a <;> cases h; exact ⟨_, rfl, rfl⟩
  | a :: l, i + 1, s, h => by rw [gt_s] at h; obtain ⟨x, e, q⟩ := gt_ok h; exact ⟨x, e, by simpa using q⟩
theorem gt_nex : ∀ {δ : List S} {i : Nat} {c : Addr} {fs : List (Str × D)}, gt δ i ≠ .ex c fs
  | [], i, _, _ => by cases i <;> exact fun z => nomatch z
  | a :: l, 0, _, _ => by cases a <;> exact fun z => nomatch z
  | a :: l, i + 1, _, _ => by rw [gt_s]; exact gt_nex
def SE.var (i : Nat) : SE Hy where
  t _ _ := tVar i
  f δ := gt δ i
  ok K hk W δ := by
    cases h : gt δ i with
    | no => trivial
    | ex c fs => exact (gt_nex h).elim
    | ok s => obtain ⟨x, rfl, e⟩ := gt_ok h; exact ev_var e
def SE.int (i : Int) : SE Hy := ⟨fun _ _ => tC (.int i), fun _ => .ok (.d (.int i)), fun _ _ _ _ => ev_int⟩
def SE.bl (i : Bool) : SE Hy := ⟨fun _ _ => tC (.bl i), fun _ => .ok (.d (.bl i)), fun _ _ _ _ => ev_bl⟩
def SE.str (i : Str) : SE Hy := ⟨fun _ _ => tC (.str i), fun _ => .ok (.d (.str i)), fun _ _ _ _ => ev_str⟩
def SE.non : SE Hy := ⟨fun _ _ => tC .non, fun _ => .ok (.d .non), fun _ _ _ _ => ev_non⟩
def SE.ty (n : String) : SE Hy := ⟨fun _ _ => tC (.ty n), fun _ => .ok (.d (.ty n)), fun _ _ _ _ => ev_ty⟩
def SE.cls (a : Addr) : SE Hy := ⟨fun _ _ => tC (.ref a), fun _ => .ok (.d (.cls a)), fun _ _ _ _ => ev_cls⟩
/-! ### arguments -/
def SA.nil : SA Hy := ⟨fun _ _ => tNil, fun _ => .ok [], fun _ _ _ _ => ea_nil⟩
def SA.cons (e : SE Hy) (r : SA Hy) : SA Hy where
  t K W := tCons (e.t K W) (r.t K W)
  f δ := (e.fd δ).bind fun x => (r.f δ).bind fun xs => .ok (x :: xs)
  ok K hk W δ := by
    cases h : e.fd δ with
    | no => trivial
    | ex c fs => exact exa_head (e.exD hk h)
    | ok x =>
      cases h2 : r.f δ with
      | no => rw [M.ok_bind]; trivial
      | ex c fs => rw [M.ok_bind]; exact exa_tail (e.okD hk h) (r.exA hk h2)
      | ok xs => rw [M.ok_bind]; exact ea_cons (e.okD hk h) (r.okA hk h2)
/-! ### operations -/
def SE.op (o : O2) (a b : SE Hy) : SE Hy where
  t K W := tOp (o.r K) (a.t K W) (b.t K W)
  f δ := (a.fd δ).bind fun x => (b.fd δ).bind fun y => .of (o.f x y)
  ok K hk W δ := by
    cases h : a.fd δ with
    | no => trivial
    | ex c fs => exact ex_op1 (a.exD hk h)
    | ok x =>
      rw [M.ok_bind]
      cases h2 : b.fd δ with
      | no => trivial
      | ex c fs => exact ex_op2 (a.okD hk h) (b.exD hk h2)
      | ok y =>
        rw [M.ok_bind]
        cases h3 : o.f x y with
        | none => trivial
        | some s => exact ev_op (a.okD hk h) (b.okD hk h2) (o.ok K x y s h3)
def SE.un (o : O1) (a : SE Hy) : SE Hy where
  t K W := tUn (o.r K) (a.t K W)
  f δ := (a.fd δ).bind fun x => .of (o.f x)
  ok K hk W δ := by
    cases h : a.fd δ with
    | no => trivial
    | ex c fs => exact ex_un (a.exD hk h)
    | ok x =>
      rw [M.ok_bind]
      cases h3 : o.f x with
      | none => trivial
      | some s => exact ev_un (a.okD hk h) (o.ok K x s h3)
def SE.cb (o : OB Hy) (a : SA Hy) : SE Hy where
  t K W := tCB (o.r K) (a.t K W)
  f δ := (a.f δ).bind fun xs => .of (o.f xs)
  ok K hk W δ := by
    cases h : a.f δ with
    | no => trivial
    | ex c fs => exact ex_cb (a.exA hk h)
    | ok x =>
      rw [M.ok_bind]
      cases h3 : o.f x with
      | none => trivial
      | some s => exact ev_cb (a.okA hk h) (o.ok K hk x s h3)
def SE.tup (a : SA Hy) : SE Hy where
  t K W := tTupP (a.t K W)
  f δ := (a.f δ).bind fun xs => if xs.length ≤ sizeLine then .ok (.d (.tup xs)) else .no
  ok K hk W δ := by
    cases h : a.f δ with
    | no => trivial
    | ex c fs => exact ex_tup (a.exA hk h)
    | ok x =>
      rw [M.ok_bind]
      by_cases z : x.length ≤ sizeLine
      · rw [if_pos z]; exact ev_tup (a.okA hk h) z
      · rw [if_neg z]; trivial
def SE.lst (a : SA Hy) : SE Hy where
  t K W := tLst (a.t K W)
  f δ := (a.f δ).bind fun xs => if xs.length ≤ sizeLine then .ok (.own xs) else .no
  ok K hk W δ := by
    cases h : a.f δ with
    | no => trivial
    | ex c fs => exact ex_lst (a.exA hk h)
    | ok x =>
      rw [M.ok_bind]
      by_cases z : x.length ≤ sizeLine
      · rw [if_pos z]; exact ev_lst (a.okA hk h) z
      · rw [if_neg z]; trivial
/-! ### calls -/
def RF (F : List D → M S) (xs : List D) (out : Out) : Prop := (∃ s, F xs = .ok s ∧ out = .ret s) ∨ ∃ c cf, F xs = .ex c cf ∧ out = .exc c cf
def RI (C : Addr) (F : Addr → List D → M (List (Str × D))) (xs : List D) (out : Out) : Prop := (∃ fs, (∀ x, F x xs = .ok fs) ∧ out = .ret (.d (.ins C fs))) ∨ ∃ c cf, (∀ x, F x xs = .ex c cf) ∧ out = .exc c cf
open Classical in
/-- a constructor's run: the same whatever the new object's place -/
noncomputable def mkR (F : Addr → List D → M (List (Str × D))) (xs : List D) : M (List (Str × D)) := if ∀ x, F x xs = F 0 xs then F 0 xs else .no
theorem mkR_eq {F : Addr → List D → M (List (Str × D))} {xs : List D} {r : M (List (Str × D))} (h : ∀ x, F x xs = r) : mkR F xs = r := by
  unfold mkR; rw [if_pos (fun x => (h x).trans (h 0).symm)]; exact h 0
theorem mkR_ok {F : Addr → List D → M (List (Str × D))} {xs : List D} {r : M (List (Str × D))} (h : mkR F xs = r) (n : r ≠ .no) : ∀ x, F x xs = r := by
  unfold mkR at h
  split at h
  · rename_i q; intro x; rw [q x]; exact h
  · exact (n h.symm).elim
def SE.call (F : List D → M S) (a : SA Hy) : SE Hy where
  t K W := tCall (spD K (RF F)) [] E0 (a.t K W)
  f δ := (a.f δ).bind fun xs => (F xs).bin .ok
  ok K hk W δ := by
    cases h : a.f δ with
    | no => trivial
    | ex c fs => exact ex_callL (a.exA hk h)
    | ok xs =>
      rw [M.ok_bind]
      cases h2 : F xs with
      | ok s => exact ev_call (a.okA hk h) (.inl ⟨s, h2, rfl⟩)
      | _ => trivial
def SE.callX (F : List D → M S) (a : SA Hy) : SE Hy where
  t K W := tCallS (spD K (RF F)) (WE W) (a.t K W)
  f δ := (a.f δ).bind F
  ok K hk W δ := by
    cases h : a.f δ with
    | no => trivial
    | ex c fs => exact ex_callA' (a.exA hk h)
    | ok xs =>
      rw [M.ok_bind]
      cases h2 : F xs with
      | no => trivial
      | ok s => exact ev_callS (a.okA hk h) (.inl ⟨s, h2, rfl⟩)
      | ex c cf => exact ex_callS (a.okA hk h) (.inr ⟨c, cf, h2, rfl⟩)
noncomputable def SE.make (C : Addr) (F : Addr → List D → M (List (Str × D))) (a : SA Hy) : SE Hy where
  t K W := tMakeS C (spI K C (RI C F)) (fun _ => E0) (a.t K W)
  f δ := (a.f δ).bind fun xs => (mkR F xs).bin fun fs => .ok (.d (.ins C fs))
  ok K hk W δ := by
    cases h : a.f δ with
    | no => trivial
    | ex c fs => exact ex_makeA' (a.exA hk h)
    | ok xs =>
      rw [M.ok_bind]
      cases h2 : mkR F xs with
      | ok fs => exact ev_makeS (a.okA hk h) (.inl ⟨fs, mkR_ok h2 (fun z => nomatch z), rfl⟩)
      | _ => trivial
noncomputable def SE.makeX (C : Addr) (F : Addr → List D → M (List (Str × D))) (a : SA Hy) : SE Hy where
  t K W := tMakeS C (spI K C (RI C F)) (WE W) (a.t K W)
  f δ := (a.f δ).bind fun xs => (mkR F xs).bind fun fs => .ok (.d (.ins C fs))
  ok K hk W δ := by
    cases h : a.f δ with
    | no => trivial
    | ex c fs => exact ex_makeA' (a.exA hk h)
    | ok xs =>
      rw [M.ok_bind]
      cases h2 : mkR F xs with
      | ok fs => exact ev_makeS (a.okA hk h) (.inl ⟨fs, mkR_ok h2 (fun z => nomatch z), rfl⟩)
      | ex c cf => exact ex_makeS (a.okA hk h) (.inr ⟨c, cf, mkR_ok h2 (fun z => nomatch z), rfl⟩)
      | no => trivial
def SE.new0 (C : Addr) : SE Hy := ⟨fun _ _ => tNew0 C, fun _ => .ok (.d (.ins C [])), fun _ _ _ _ => ev_new0⟩
/-- an instance of C without an attribute m of its own -/
def ofC (C : Addr) (m : Str) : D → Bool
  | .ins C' fs => decide (C' = C) && (fs.lookup m).isNone
  | _ => false
theorem ofC_to {C : Addr} {m : Str} {x : D} (h : ofC C m x = true) : ∃ fs, x = .ins C fs ∧ fs.lookup m = none := by
  cases x with
  | ins C' fs =>
    unfold ofC at h
    rw [Bool.and_eq_true, decide_eq_true_eq] at h
    obtain ⟨rfl, h⟩ := h
    refine ⟨fs, rfl, ?_⟩
    cases e : fs.lookup m with
    | none => rfl
    | some v => rw [e] at h; cases h
  | _ => exact (nomatch h)
def SE.meth (C : Addr) (m : Str) (F : List D → M S) (o : SE Hy) (a : SA Hy) : SE Hy where
  t K W := tMethS C m (spD K (RF F)) (fun _ => E0) (o.t K W) (a.t K W)
  f δ := (o.fd δ).bind fun x => if ofC C m x = true then (a.f δ).bind fun xs => (F (x :: xs)).bin .ok else .no
  ok K hk W δ := by
    cases h : o.fd δ with
    | no => trivial
    | ex c fs => exact ex_methO (o.exD hk h)
    | ok x =>
      rw [M.ok_bind]
      by_cases z : ofC C m x = true
      · rw [if_pos z]
        obtain ⟨fs, rfl, hm⟩ := ofC_to z
        cases h1 : a.f δ with
        | no => trivial
        | ex c cf => exact ex_methA (o.okD hk h) hm (a.exA hk h1)
        | ok xs =>
          rw [M.ok_bind]
          cases h2 : F (.ins C fs :: xs) with
          | ok s => exact ev_methS (o.okD hk h) hm (a.okA hk h1) (.inl ⟨s, h2, rfl⟩)
          | _ => trivial
      · rw [if_neg z]; trivial
def SE.methX (C : Addr) (m : Str) (F : List D → M S) (o : SE Hy) (a : SA Hy) : SE Hy where
  t K W := tMethS C m (spD K (RF F)) (WE W) (o.t K W) (a.t K W)
  f δ := (o.fd δ).bind fun x => if ofC C m x = true then (a.f δ).bind fun xs => F (x :: xs) else .no
  ok K hk W δ := by
    cases h : o.fd δ with
    | no => trivial
    | ex c fs => exact ex_methO (o.exD hk h)
    | ok x =>
      rw [M.ok_bind]
      by_cases z : ofC C m x = true
      · rw [if_pos z]
        obtain ⟨fs, rfl, hm⟩ := ofC_to z
        cases h1 : a.f δ with
        | no => trivial
        | ex c cf => exact ex_methA (o.okD hk h) hm (a.exA hk h1)
        | ok xs =>
          rw [M.ok_bind]
          cases h2 : F (.ins C fs :: xs) with
          | ok s => exact ev_methS (o.okD hk h) hm (a.okA hk h1) (.inl ⟨s, h2, rfl⟩)
          | ex c cf => exact ex_methS (o.okD hk h) hm (a.okA hk h1) (.inr ⟨c, cf, h2, rfl⟩)
          | no => trivial
      · rw [if_neg z]; trivial
/-- one of two readings: the first that is covered -/
def SE.either (a b : SE Hy) : SE Hy where
  t K W := tEither (a.t K W) (b.t K W)
  f δ := match a.f δ with | .no => b.f δ | r => r
  ok K hk W δ := by
    cases h : a.f δ with
    | no =>
      show EVF K W _ δ (b.f δ)
      cases h2 : b.f δ with
      | no => trivial
      | ex c cf => exact ex_eR (b.exS hk h2)
      | ok s => exact ev_eR (b.okS hk h2)
    | ex c cf => exact ex_eL (a.exS hk h)
    | ok s => exact ev_eL (a.okS hk h)
/-! ### fields -/
/-- the classes of which the field f is known -/
def FldOk (Hy : PySem.W.Frag → Prop) (f : Str) (Cs : List Addr) : Prop := ∀ K, Hy K → ∀ C ∈ Cs, Cls K C ∧ NoAttr K C f
theorem fo_nil {f : Str} : FldOk Hy f [] := fun _ _ _ h => nomatch h
theorem fo_cons {f : Str} {C : Addr} {Cs : List Addr} (h : ∀ K, Hy K → Cls K C ∧ NoAttr K C f) (r : FldOk Hy f Cs) : FldOk Hy f (C :: Cs) := fun K hk D hD => by
  rcases List.mem_cons.mp hD with rfl | z
  · exact h K hk
  · exact r K hk D z
def fldF (Cs : List Addr) (f : Str) : D → Option D
  | .ins C fs => if C ∈ Cs then fs.lookup f else none
  | _ => none
def SE.fld (f : Str) (Cs : List Addr) (h : FldOk Hy f Cs) (o : SE Hy) : SE Hy where
  t K W := tFld K (o.t K W) f
  f δ := (o.fd δ).bind fun x => (M.of (fldF Cs f x)).bin fun y => .ok (.d y)
  ok K hk W δ := by
    cases h0 : o.fd δ with
    | no => trivial
    | ex c fs => exact ex_fld (o.exD hk h0)
    | ok x =>
      rw [M.ok_bind]
      cases h1 : fldF Cs f x with
      | none => trivial
      | some y =>
        cases x <;> simp only [fldF] at h1 <;> try (cases h1; done)
        rename_i C fs
        by_cases z : C ∈ Cs
        · rw [if_pos z] at h1
          obtain ⟨c, n⟩ := h K hk C z
          exact ev_fld (o.okD hk h0) c n h1
        · rw [if_neg z] at h1; cases h1
/-! ### truth -/
def tru : D → Option Bool
  | .non => some false | .bl b => some b | .int i => some (i != 0) | .str x => if x.length ≤ sizeLine then some ((x.length : Int) != 0) else none
  | .lst xs => some (!xs.isEmpty) | .tup xs => some (!xs.isEmpty) | _ => none
theorem tru_ok {b : Bool} (h : tru x = some b) : TrD x b := by
  cases x <;> simp only [tru] at h <;> try (cases h; done)
  · cases h; exact .non
  · cases h; exact .bl _
  · cases h; exact .int _
  · split at h
    · rename_i z; cases h; exact .str _ z
    · cases h
  · cases h; exact .tup _
  · cases h; exact .lst _
def SE.orE (a b : SE Hy) : SE Hy where
  t K W := tOrT K (a.t K W) (b.t K W)
  f δ := (a.fd δ).bin fun x => (M.of (tru x)).bin fun k => if k = true then .ok (.d x) else (b.f δ).bin .ok
  ok K hk W δ := by
    cases h : a.fd δ with
    | ok x =>
      rw [M.ok_bin]
      cases h1 : tru x with
      | none => trivial
      | some k =>
        rw [M.of_some, M.ok_bin]
        cases k with
        | true => rw [if_pos rfl]; exact ev_is (ev_orT (s2 := .un) (a.okD hk h) (tru_ok h1) fun z => nomatch z) rfl
        | false =>
          rw [if_neg (fun z => nomatch z)]
          cases h2 : b.f δ with
          | ok s => exact ev_is (ev_orT (a.okD hk h) (tru_ok h1) fun _ => b.okS hk h2) rfl
          | _ => trivial
    | _ => trivial
def SE.andE (a b : SE Hy) : SE Hy where
  t K W := tAndT K (a.t K W) (b.t K W)
  f δ := (a.fd δ).bin fun x => (M.of (tru x)).bin fun k => if k = true then (b.f δ).bin .ok else .ok (.d x)
  ok K hk W δ := by
    cases h : a.fd δ with
    | ok x =>
      rw [M.ok_bin]
      cases h1 : tru x with
      | none => trivial
      | some k =>
        rw [M.of_some, M.ok_bin]
        cases k with
        | false => rw [if_neg (fun z => nomatch z)]; exact ev_is (ev_andT (s2 := .un) (a.okD hk h) (tru_ok h1) fun z => nomatch z) rfl
        | true =>
          rw [if_pos rfl]
          cases h2 : b.f δ with
          | ok s => exact ev_is (ev_andT (a.okD hk h) (tru_ok h1) fun _ => b.okS hk h2) rfl
          | _ => trivial
    | _ => trivial
def SE.notE (a : SE Hy) : SE Hy where
  t K W := tNotT K (a.t K W)
  f δ := (a.fd δ).bin fun x => (M.of (tru x)).bin fun k => .ok (.d (.bl (!k)))
  ok K hk W δ := by
    cases h : a.fd δ with
    | ok x =>
      rw [M.ok_bin]
      cases h1 : tru x with
      | none => trivial
      | some k => exact ev_notT (a.okD hk h) (tru_ok h1)
    | _ => trivial
def SE.ifE (c : ST Hy) (a b : SE Hy) : SE Hy where
  t K W := tIf (c.t K W) (a.t K W) (b.t K W)
  f δ := (c.f δ).bin fun k => if k = true then a.f δ else b.f δ
  ok K hk W δ := by
    cases h : c.f δ with
    | ok k =>
      rw [M.ok_bin]
      cases k with
      | true =>
        rw [if_pos rfl]
        cases h2 : a.f δ with
        | no => trivial
        | ok s => exact ev_ifT (c.okB hk h) (a.okS hk h2)
        | ex e cf => exact ex_if (c.okB hk h) (fun _ => a.exS hk h2) fun z => nomatch z
      | false =>
        rw [if_neg (fun z => nomatch z)]
        cases h2 : b.f δ with
        | no => trivial
        | ok s => exact ev_ifF (c.okB hk h) (b.okS hk h2)
        | ex e cf => exact ex_if (c.okB hk h) (fun z => nomatch z) fun _ => b.exS hk h2
    | _ => trivial
def asB : S → M Bool | .d (.bl b) => .ok b | _ => .no
theorem asB_bl {b : Bool} : asB (.d (.bl b)) = .ok b := rfl
def ST.of (e : SE Hy) : ST Hy where
  t K W := tTest (e.t K W)
  f δ := (e.f δ).bin asB
  ok K hk W δ := by
    cases h : e.f δ with
    | ok s =>
      rw [M.ok_bin]
      cases h1 : asB s with
      | ok b =>
        have : s = .d (.bl b) := by
          cases s with
          | d x => cases x <;> cases h1; rfl
          | _ => cases h1
        subst this
        exact eb_test (e.okS hk h)
      | _ => trivial
    | _ => trivial
def ST.tru (e : SE Hy) : ST Hy where
  t K W := tTru K (e.t K W)
  f δ := (e.fd δ).bin fun x => .of (Far.tru x)
  ok K hk W δ := by
    cases h : e.fd δ with
    | ok x =>
      rw [M.ok_bin]
      cases h1 : Far.tru x with
      | none => trivial
      | some b => exact eb_tru (e.okD hk h) (tru_ok h1)
    | _ => trivial
def ST.not (c : ST Hy) : ST Hy where
  t K W := tNot (c.t K W)
  f δ := (c.f δ).bin fun b => .ok (!b)
  ok K hk W δ := by
    cases h : c.f δ with
    | ok b => exact eb_not (c.okB hk h)
    | _ => trivial
def ST.and (c e : ST Hy) : ST Hy where
  t K W := tAnd (c.t K W) (e.t K W)
  f δ := (c.f δ).bin fun b => if b = true then (e.f δ).bin .ok else .ok false
  ok K hk W δ := by
    cases h : c.f δ with
    | ok b =>
      rw [M.ok_bin]
      cases b with
      | false => rw [if_neg (fun z => nomatch z)]; exact eb_andF (c.okB hk h)
      | true =>
        rw [if_pos rfl]
        cases h2 : e.f δ with
        | ok k => exact eb_is (eb_and (c.okB hk h) fun _ => e.okB hk h2) (by cases k <;> rfl)
        | _ => trivial
    | _ => trivial
def ST.or (c e : ST Hy) : ST Hy where
  t K W := tOr (c.t K W) (e.t K W)
  f δ := (c.f δ).bin fun b => if b = true then .ok true else (e.f δ).bin .ok
  ok K hk W δ := by
    cases h : c.f δ with
    | ok b =>
      rw [M.ok_bin]
      cases b with
      | true => rw [if_pos rfl]; exact eb_orT (c.okB hk h)
      | false =>
        rw [if_neg (fun z => nomatch z)]
        cases h2 : e.f δ with
        | ok k => exact eb_is (eb_or (c.okB hk h) fun _ => e.okB hk h2) (by cases k <;> rfl)
        | _ => trivial
    | _ => trivial
def ST.yes : ST Hy := ⟨fun _ _ => tYes, fun _ => .ok true, fun _ _ _ _ => eb_yes⟩
def asBl : Option S → M Bool | some (.d (.bl b)) => .ok b | _ => .no
theorem asBl_bl {b : Bool} : asBl (some (.d (.bl b))) = .ok b := rfl
theorem asBl_to {o : Option S} {b : Bool} (h : asBl o = .ok b) : o = some (.d (.bl b)) := by
  cases o with
  | none => cases h
  | some s =>
    cases s with
    | d x => cases x <;> cases h; rfl
    | _ => cases h
def SE.chain (o p : O2) (a b c : SE Hy) : SE Hy where
  t K W := tChain (o.r K) (p.r K) (a.t K W) (b.t K W) (c.t K W)
  f δ := (a.fd δ).bin fun x => (b.fd δ).bin fun y => (asBl (o.f x y)).bin fun k => (c.fd δ).bin fun z => (asBl (p.f y z)).bin fun l => .ok (.d (.bl (k && l)))
  ok K hk W δ := by
    cases h1 : a.fd δ with
    | ok x =>
      cases h2 : b.fd δ with
      | ok y =>
        cases h3 : asBl (o.f x y) with
        | ok k =>
          cases h4 : c.fd δ with
          | ok z =>
            cases h5 : asBl (p.f y z) with
            | ok l =>
              simp only [M.ok_bin, h3, h5]
              exact ev_chain (a.okD hk h1) (b.okD hk h2) (o.ok K x y _ (asBl_to h3)) (c.okD hk h4) (p.ok K y z _ (asBl_to h5))
            | _ => simp only [M.ok_bin, h3, h5]; trivial
          | _ => simp only [M.ok_bin, h3]; trivial
        | _ => simp only [M.ok_bin, h3]; trivial
      | _ => trivial
    | _ => trivial
/-! ### slices -/
def SO.none : SO Hy := ⟨fun _ _ => tNoPart, fun _ => .ok .none, fun _ _ _ _ => eo_none⟩
def asI : D → M (Option Int) | .int i => .ok (some i) | _ => .no
theorem asI_int {i : Int} : asI (.int i) = .ok (some i) := rfl
def SO.some (e : SE Hy) : SO Hy where
  t K W := tPart (e.t K W)
  f δ := (e.fd δ).bin asI
  ok K hk W δ := by
    cases h : e.fd δ with
    | ok x =>
      rw [M.ok_bin]
      cases x with
      | int i => exact eo_some (e.okD hk h)
      | _ => trivial
    | _ => trivial
def cutF (x : D) (lo hi : Option Int) : M S := match x with
  | .lst xs => .ok (.own (cutD xs lo hi)) | .tup xs => .ok (.d (.tup (cutD xs lo hi))) | .str z => if z.length ≤ sizeLine then .ok (.d (.str (cutS z lo hi))) else .no | _ => .no
def SE.sl (a : SE Hy) (lo hi : SO Hy) : SE Hy where
  t K W := tSl (rSlU K) (a.t K W) (lo.t K W) (hi.t K W)
  f δ := (a.fd δ).bin fun x => (lo.f δ).bin fun l => (hi.f δ).bin fun h => cutF x l h
  ok K hk W δ := by
    cases h1 : a.fd δ with
    | ok x =>
      cases h2 : lo.f δ with
      | ok l =>
        cases h3 : hi.f δ with
        | ok h =>
          simp only [M.ok_bin]
          cases x with
          | lst xs => exact ev_slL (a.okD hk h1) (lo.okO hk h2) (hi.okO hk h3)
          | tup xs => exact ev_slT (a.okD hk h1) (lo.okO hk h2) (hi.okO hk h3)
          | str z =>
            show EVF K W _ δ (if _ then _ else _)
            by_cases q : z.length ≤ sizeLine
            · rw [if_pos q]; exact ev_slS (a.okD hk h1) (lo.okO hk h2) (hi.okO hk h3) q
            · rw [if_neg q]; trivial
          | _ => trivial
        | _ => trivial
      | _ => trivial
    | _ => trivial
end
end Far
/-! Sources, targets, comprehensions, statements, loops as functions over data. -/
namespace Far
open PySem L2
variable {Hy : PySem.W.Frag → Prop}
section
variable {K : PySem.W.Frag} {δ : List S} {te ta tb : TE} {tr : TA} {x y z : D} {s : S} {xs : List D} {fs : List (Str × D)} {C : Addr} {c : Addr} {cf : List (Str × D)} {W : WX}
/-! ### sources -/
def SI.seq (e : SE Hy) : SI Hy where
  t K W := iSeq K (e.t K W)
  f δ := (e.fd δ).bin fun x => match x with | .lst xs => .ok xs | .tup xs => .ok xs | _ => .no
  ok K hk W δ := by
    cases h : e.fd δ with
    | ok x =>
      rw [M.ok_bin]
      cases x with
      | lst xs => exact ei_seqL (e.okD hk h)
      | tup xs => exact ei_seqT (e.okD hk h)
      | _ => trivial
    | _ => trivial
def SI.tup (e : SE Hy) : SI Hy where
  t K W := iTup K (e.t K W)
  f δ := (e.fd δ).bin fun x => match x with | .tup xs => .ok xs | _ => .no
  ok K hk W δ := by
    cases h : e.fd δ with
    | ok x =>
      rw [M.ok_bin]
      cases x with
      | tup xs => exact ei_tup (e.okD hk h)
      | _ => trivial
    | _ => trivial
def inR (n : Int) : Bool := decide (-(2 ^ 62) ≤ n) && decide (n < 2 ^ 62)
theorem inR_to {n : Int} (h : inR n = true) : -(2 ^ 62) ≤ n ∧ n < 2 ^ 62 := by
  unfold inR at h; rw [Bool.and_eq_true, decide_eq_true_eq, decide_eq_true_eq] at h; exact h
def SI.rng1 (a : SA Hy) : SI Hy where
  t K W := iRngW1 (a.t K W)
  f δ := (a.f δ).bin fun xs => match xs with | [.int n] => .ok (rg 0 n.toNat) | _ => .no
  ok K hk W δ := by
    cases h : a.f δ with
    | ok xs =>
      rw [M.ok_bin]
      split
      · exact ei_rngW1 (a.okA hk h)
      · trivial
    | _ => trivial
def SI.rng2 (a : SA Hy) : SI Hy where
  t K W := iRngW2 (a.t K W)
  f δ := (a.f δ).bin fun xs => match xs with | [.int m, .int n] => .ok (rg m (n - m).toNat) | _ => .no
  ok K hk W δ := by
    cases h : a.f δ with
    | ok xs =>
      rw [M.ok_bin]
      split
      · exact ei_rngW2 (a.okA hk h)
      · trivial
    | _ => trivial
/-! ### targets -/
theorem et_seqU {n : Nat} {gs : TGs} {δ' : List S} (h : ETs K gs δ xs δ') (hn : xs.length = n) : ET K (gSeq K n gs) δ (.utp xs) δ' := fun He Ge H G τo τs σ v hl ok r Q q => .inl (et_utp h hn He Ge H G τo τs σ v hl ok r Q q)
theorem set_some {δ : List S} {i : Nat} (h : i < δ.length) : ET K (gName i) δ x (δ.set i (.d x)) := et_name h
def SG.name (i : Nat) : SG Hy where
  t _ _ := gName i
  ix := [i]
  f δ x := if i < δ.length then some (δ.set i (.d x)) else none
  ok K hk W δ x := by
    by_cases z : i < δ.length
    · simp only [if_pos z]; exact et_name z
    · simp only [if_neg z]; trivial
  gok K W vs h := gok_name (h i (List.mem_singleton.mpr rfl))
def SGs.nil : SGs Hy where
  t _ _ := gNil
  ix := []
  n := 0
  f δ xs := match xs with | [] => some δ | _ => none
  ok K hk W δ xs := by cases xs with
    | nil => exact .nil
    | cons => trivial
  len δ xs δ' h := by cases xs with
    | nil => rfl
    | cons => cases h
  gok K W vs h := gsok_nil
def SGs.cons (i : Nat) (r : SGs Hy) : SGs Hy where
  t K W := gCons (gName i) (r.t K W)
  ix := i :: r.ix
  n := r.n + 1
  f δ xs := match xs with | x :: xs => if i < δ.length then r.f (δ.set i (.d x)) xs else none | [] => none
  ok K hk W δ xs := by cases xs with
    | nil => trivial
    | cons x xs =>
      by_cases z : i < δ.length
      · simp only [if_pos z]
        have q := r.ok K hk W (δ.set i (.d x)) xs
        cases h : r.f (δ.set i (.d x)) xs with
        | none => trivial
        | some δ' => rw [h] at q; exact .cons (et_name z) q
      · simp only [if_neg z]; trivial
  len δ xs δ' h := by cases xs with
    | nil => cases h
    | cons x xs =>
      by_cases z : i < δ.length
      · simp only [if_pos z] at h; exact congrArg (· + 1) (r.len _ _ _ h)
      · simp only [if_neg z] at h; cases h
  gok K W vs h := gsok_name (h i (List.mem_cons_self ..)) (r.gok K W vs fun j hj => h j (List.mem_cons_of_mem _ hj))
def SG.seq (n : Nat) (r : SGs Hy) : SG Hy where
  t K W := gSeq K n (r.t K W)
  ix := r.ix
  f δ x := if r.n = n then (match x with | .tup xs => r.f δ xs | .utp xs => r.f δ xs | .lst xs => r.f δ xs | _ => none) else none
  ok K hk W δ x := by
    by_cases hn : r.n = n
    · rw [if_pos hn]
      cases x with
      | tup xs =>
        have q := r.ok K hk W δ xs
        show ETF K _ δ _ (r.f δ xs)
        cases h : r.f δ xs with
        | none => trivial
        | some δ' => rw [h] at q; exact et_seqT q ((r.len _ _ _ h).trans hn)
      | utp xs =>
        have q := r.ok K hk W δ xs
        show ETF K _ δ _ (r.f δ xs)
        cases h : r.f δ xs with
        | none => trivial
        | some δ' => rw [h] at q; exact et_seqU q ((r.len _ _ _ h).trans hn)
      | lst xs =>
        have q := r.ok K hk W δ xs
        show ETF K _ δ _ (r.f δ xs)
        cases h : r.f δ xs with
        | none => trivial
        | some δ' => rw [h] at q; exact et_seqL q ((r.len _ _ _ h).trans hn)
      | _ => trivial
    · rw [if_neg hn]; trivial
  gok K W vs h := gok_seq (r.gok K W vs h)
/-! ### comprehensions -/
def lcF (st : D → M (Option D)) : List D → M (List D)
  | [] => .ok []
  | y :: r => (st y).bin fun o => (lcF st r).bin fun xs => .ok (match o with | some x => x :: xs | none => xs)
def stP (st : D → M (Option D)) (y : D) : Bool := match st y with | .ok (some _) => true | _ => false
def stV (st : D → M (Option D)) (y : D) : D := match st y with | .ok (some x) => x | _ => .non
theorem lcF_to {st : D → M (Option D)} : ∀ {ys xs : List D}, lcF st ys = .ok xs → (∀ y ∈ ys, ∃ o, st y = .ok o) ∧ xs = (ys.filter (stP st)).map (stV st)
  | [], xs, h => by
    cases h
    exact ⟨fun _ h => (nomatch h), rfl⟩
  | y :: r, xs, h => by
    unfold lcF at h
    cases e : st y with
    | ok o =>
      cases e2 : lcF st r with
      | ok zs =>
        rw [e, M.ok_bin, e2, M.ok_bin] at h
        obtain ⟨q1, q2⟩ := lcF_to e2
        refine ⟨fun w hw => ?_, ?_⟩
        · rcases List.mem_cons.mp hw with rfl | hw
          · exact ⟨o, e⟩
          · exact q1 w hw
        · cases o with
          | none =>
            have p : stP st y = false := by unfold stP; rw [e]
            rw [List.filter_cons, p]; cases h; exact q2
          | some x =>
            have p : stP st y = true := by unfold stP; rw [e]
            have v : stV st y = x := by unfold stV; rw [e]
            rw [List.filter_cons, p]; cases h
            show x :: zs = stV st y :: _
            rw [v, q2]
      | _ => rw [e, M.ok_bin, e2] at h; cases h
    | _ => rw [e] at h; cases h
/-- what a comprehension's block does with an item -/
def lcS (g : SG Hy) (c : ST Hy) (e : SE Hy) (δ : List S) (y : D) : M (Option D) := (M.of (g.f δ y)).bin fun δ2 => (c.f δ2).bin fun b => if b = true then (e.fd δ2).bin fun x => .ok (some x) else .ok none
def SE.lc (i : SI Hy) (g : SG Hy) (c : ST Hy) (e : SE Hy) (vs : List Nat) : SE Hy where
  t K W := tLc (i.t K W) (g.t K W) (c.t K W) (e.t K W) vs
  f δ := (i.f δ).bin fun ys => if g.ix.all (fun i => vs.contains i) = true ∧ ys.length ≤ sizeLine then (lcF (lcS g c e (hide δ vs)) ys).bin fun xs => .ok (.own xs) else .no
  ok K hk W δ := by
    cases h : i.f δ with
    | ok ys =>
      rw [M.ok_bin]
      by_cases zz : g.ix.all (fun i => vs.contains i) = true ∧ ys.length ≤ sizeLine
      · rw [if_pos zz]
        obtain ⟨hv, z⟩ := zz
        cases h2 : lcF (lcS g c e (hide δ vs)) ys with
        | ok xs =>
          obtain ⟨q1, rfl⟩ := lcF_to h2
          refine ev_lcF (i.okI hk h) (g.gok K W vs (fun i hi => by have := List.all_eq_true.mp hv i hi; simpa using this)) z fun y hy => ?_
          obtain ⟨o, ho⟩ := q1 y hy
          have ho' := ho
          unfold lcS at ho
          cases h3 : g.f (hide δ vs) y with
          | none => rw [h3] at ho; cases ho
          | some δ2 =>
            rw [h3, M.of_some, M.ok_bin] at ho
            refine ⟨δ2, g.okG hk h3, ?_⟩
            cases h4 : c.f δ2 with
            | ok b =>
              rw [h4, M.ok_bin] at ho
              cases b with
              | false =>
                rw [if_neg (fun z => nomatch z)] at ho
                cases ho
                have p : stP (lcS g c e (hide δ vs)) y = false := by unfold stP; rw [ho']
                rw [p]
                exact ⟨c.okB hk h4, fun z => nomatch z⟩
              | true =>
                rw [if_pos rfl] at ho
                cases h5 : e.fd δ2 with
                | ok x =>
                  rw [h5, M.ok_bin] at ho
                  cases ho
                  have p : stP (lcS g c e (hide δ vs)) y = true := by unfold stP; rw [ho']
                  have v : stV (lcS g c e (hide δ vs)) y = x := by unfold stV; rw [ho']
                  rw [p, v]
                  exact ⟨c.okB hk h4, fun _ => e.okD hk h5⟩
                | _ => rw [h5] at ho; cases ho
            | _ => rw [h4] at ho; cases ho
        | _ => trivial
      · rw [if_neg zz]; trivial
    | _ => trivial
/-! ### statements -/
theorem sdr_mono {N' B' C' : List S → Prop} {R' : S → List S → Prop} {X' : List S → Addr → List (Str × D) → Prop} {t : TS} {r : Fl} (h : SDR K W t δ r) (n : ∀ δ', r = .nx δ' → N' δ') (rt : ∀ s δ', r = .rt s → R' s δ') (b : ∀ δ', r = .bk δ' → B' δ') (c : ∀ δ', r = .ct δ' → C' δ') (x : ∀ δ' a fs, r = .ex δ' a fs → X' δ' a fs) (ro : ∀ s δ', r = .rto s δ' → R' s δ') : SD K W t δ N' R' B' C' X' := sd_mono h n (fun s δ' e => e.elim (rt s δ') (ro s δ')) b c x
theorem sdf_of {t : TS} {r : Fl} (h : r ≠ .no → SDR K W t δ r) : SDF K W t δ r := by
  cases r with
  | no => trivial
  | _ => exact h fun z => nomatch z
theorem sdf_to {t : TS} {r : Fl} (h : SDF K W t δ r) (n : r ≠ .no) : SDR K W t δ r := by
  cases r with
  | no => exact (n rfl).elim
  | _ => exact h
theorem SS.okR (s : SS Hy) (hk : Hy K) (n : s.f δ ≠ .no) : SDR K W (s.t K W) δ (s.f δ) := sdf_to (s.ok K hk W δ) n
def SS.skip : SS Hy := ⟨fun _ _ => tNext, fun δ => .nx δ, fun _ _ _ _ => sd_next rfl⟩
def SS.brk : SS Hy := ⟨fun _ _ => tBreak, fun δ => .bk δ, fun _ _ _ _ => sd_break rfl⟩
def SS.cnt : SS Hy := ⟨fun _ _ => tCont, fun δ => .ct δ, fun _ _ _ _ => sd_cont rfl⟩
def SS.retN : SS Hy := ⟨fun _ _ => tRetN, fun _ => .rt (.d .non), fun _ _ _ _ => sd_retN (.inl rfl)⟩
def SS.seq (a b : SS Hy) : SS Hy where
  t K W := tSeq (a.t K W) (b.t K W)
  f δ := (a.f δ).next b.f
  ok K hk W δ := by
    refine sdf_of fun n => sd_seq ?_
    have na : a.f δ ≠ .no := fun z => n (by rw [z]; rfl)
    refine sdr_mono (a.okR hk na) (fun δ' e => ?_) (fun s _ e => by rw [e]; exact .inl rfl) (fun δ' e => by rw [e]; rfl) (fun δ' e => by rw [e]; rfl) (fun δ' c fs e => by rw [e]; rfl) (fun s _ e => by rw [e]; exact .inr rfl)
    rw [e] at n ⊢
    exact b.okR hk n
/-- a return hands on no tuple with a list of one's own -/
def retS : S → Fl
  | .ot _ _ _ => .no | s => .rt s
theorem retS_ot {s : S} (h : retS s ≠ .no) : retS s = .rt s ∧ notOt s = true := by
  cases s with
  | ot A xs B => exact (h rfl).elim
  | _ => exact ⟨rfl, rfl⟩
def SS.ret (e : SE Hy) : SS Hy where
  t K W := tRet (e.t K W)
  f δ := Fl.exp (e.f δ) δ retS
  ok K hk W δ := by
    cases h : e.f δ with
    | no => trivial
    | ex c fs => exact sd_retX (e.exS hk h) rfl
    | ok s =>
      by_cases z : retS s = .no
      · show SDF K W _ δ (retS s)
        rw [z]; trivial
      · obtain ⟨z1, z2⟩ := retS_ot z
        show SDF K W _ δ (retS s)
        rw [z1]
        exact sd_ret (e.okS hk h) z2 (.inl rfl)
def SS.drop (e : SE Hy) : SS Hy where
  t K W := tDrop (e.t K W)
  f δ := Fl.exp (e.f δ) δ fun _ => .nx δ
  ok K hk W δ := by
    cases h : e.f δ with
    | no => trivial
    | ex c fs => exact sd_dropX (e.exS hk h) rfl
    | ok s => exact sd_drop (e.okS hk h) rfl
/-- x = e, a list that is made here stays one's own -/
def SS.set (i : Nat) (e : SE Hy) : SS Hy where
  t K W := tAsg (e.t K W) (gName i)
  f δ := Fl.exp (e.f δ) δ fun s => if i < δ.length then .nx (δ.set i s) else .no
  ok K hk W δ := by
    cases h : e.f δ with
    | no => trivial
    | ex c fs => exact sd_asgX (e.exS hk h) rfl
    | ok s =>
      rw [Fl.ok_exp]
      by_cases z : i < δ.length
      · rw [if_pos z]; exact sd_set (e.okS hk h) z rfl
      · rw [if_neg z]; trivial
/-- x = e, told as data -/
def SS.setD (i : Nat) (e : SE Hy) : SS Hy where
  t K W := tAsg (e.t K W) (gName i)
  f δ := Fl.exp (e.fd δ) δ fun x => if i < δ.length then .nx (δ.set i (.d x)) else .no
  ok K hk W δ := by
    cases h : e.fd δ with
    | no => trivial
    | ex c fs => exact sd_asgX (e.exD hk h) rfl
    | ok s =>
      rw [Fl.ok_exp]
      by_cases z : i < δ.length
      · rw [if_pos z]; exact sd_set (e.okD hk h) z rfl
      · rw [if_neg z]; trivial
def SS.asg (e : SE Hy) (g : SG Hy) : SS Hy where
  t K W := tAsg (e.t K W) (g.t K W)
  f δ := Fl.exp (e.fd δ) δ fun x => Fl.exn (.of (g.f δ x)) .nx
  ok K hk W δ := by
    cases h : e.fd δ with
    | no => trivial
    | ex c fs => exact sd_asgX (e.exD hk h) rfl
    | ok x =>
      rw [Fl.ok_exp]
      cases h2 : g.f δ x with
      | none => trivial
      | some δ' => exact sd_asg (e.okD hk h) (g.okG hk h2) rfl
def SS.ite (c : ST Hy) (a b : SS Hy) : SS Hy where
  t K W := tIfS (c.t K W) (a.t K W) (b.t K W)
  f δ := Fl.exn (c.f δ) fun k => if k = true then a.f δ else b.f δ
  ok K hk W δ := by
    cases h : c.f δ with
    | ok k =>
      rw [Fl.ok_exn]
      cases k with
      | true => rw [if_pos rfl]; exact sdf_of fun n => sd_if (c.okB hk h) (fun _ => a.okR hk n) fun z => nomatch z
      | false => rw [if_neg (fun z => nomatch z)]; exact sdf_of fun n => sd_if (c.okB hk h) (fun z => nomatch z) fun _ => b.okR hk n
    | _ => trivial
def SS.raise (C : Addr) : SS Hy := ⟨fun _ W => tRaise C W, fun δ => .ex δ C [], fun _ _ _ _ => sd_raise rfl⟩
def SS.never : SS Hy := ⟨fun _ _ => tNever, fun _ => .no, fun _ _ _ _ => trivial⟩
/-- slot i a list of one's own -/
def ow : List S → Nat → M (List D)
  | .own xs :: _, 0 => .ok xs
  | _ :: l, i + 1 => ow l i
  | _, _ => .no
theorem ow_0 {l : List S} : ow (.own xs :: l) 0 = .ok xs := rfl
theorem ow_s {l : List S} {s : S} {i : Nat} : ow (s :: l) (i + 1) = ow l i := by cases s <;> rfl
theorem ow_ok : ∀ {δ : List S} {i : Nat} {xs : List D}, ow δ i = .ok xs → δ[i]? = some (.own xs)
  | [], i, s, h => by cases i <;> cases h
  | a :: l, 0, s, h => by cases a <;> cases h; rfl
  | a :: l, i + 1, s, h => by rw [ow_s] at h; simpa using ow_ok h
/-- xs.append(e) -/
def SS.app (i : Nat) (e : SE Hy) : SS Hy where
  t K W := tDrop (tBM K "list" rAppend (tVar i) (tCons (e.t K W) tNil))
  f δ := Fl.exn (ow δ i) fun xs => Fl.exn (e.fd δ) fun x => if xs.length < sizeLine then .nx (δ.set i (.own (xs ++ [x]))) else .no
  ok K hk W δ := by
    cases h : ow δ i with
    | ok xs =>
      rw [Fl.ok_exn]
      cases h2 : e.fd δ with
      | ok x =>
        rw [Fl.ok_exn]
        by_cases z : xs.length < sizeLine
        · rw [if_pos z]; exact sd_append (ow_ok h) (e.okD hk h2) z rfl
        · rw [if_neg z]; trivial
      | _ => trivial
    | _ => trivial
/-- xs[j] = e -/
def SS.setIx (i : Nat) (j e : SE Hy) : SS Hy where
  t K W := tAsg (e.t K W) (gSub (tVar i) (j.t K W) rSetL)
  f δ := Fl.exn (ow δ i) fun xs => Fl.exn (e.fd δ) fun x => Fl.exn (j.fd δ) fun k => match k with | .int n => (match ixN xs.length n with | some m => .nx (δ.set i (.own (xs.set m x))) | none => .no) | _ => .no
  ok K hk W δ := by
    cases h : ow δ i with
    | ok xs =>
      cases h2 : e.fd δ with
      | ok x =>
        cases h3 : j.fd δ with
        | ok k =>
          simp only [Fl.ok_exn]
          cases k with
          | int n =>
            show SDF K W _ δ (match ixN xs.length n with | some m => .nx (δ.set i (.own (xs.set m x))) | none => .no)
            cases h4 : ixN xs.length n with
            | none => trivial
            | some m => exact sd_setIx (ow_ok h) (e.okD hk h2) (j.okD hk h3) h4 rfl
          | _ => trivial
        | _ => trivial
      | _ => trivial
    | _ => trivial
/-- from here on the list in slot i is data -/
def SS.frz (i : Nat) (a : SS Hy) : SS Hy where
  t K W := a.t K W
  f δ := match ow δ i with | .ok xs => a.f (δ.set i (.d (.lst xs))) | _ => a.f δ
  ok K hk W δ := by
    cases h : ow δ i with
    | ok xs => exact sdf_of fun n => sd_frzAt (ow_ok h) (a.okR hk n)
    | _ => exact a.ok K hk W δ
/-- slots forgotten -/
def wpF : List Nat → List S → List S
  | [], δ => δ
  | i :: r, δ => wpF r (δ.set i .un)
theorem wpF_nil : wpF [] δ = δ := rfl
theorem wpF_cons {i : Nat} {r : List Nat} : wpF (i :: r) δ = wpF r (δ.set i .un) := rfl
theorem weak_set {i : Nat} : weak δ (δ.set i .un) := fun j s h => by
  by_cases z : i = j
  · subst z
    have hl : i < δ.length := by have := (List.getElem?_eq_some_iff.mp h).1; rwa [List.length_set] at this
    rw [List.getElem?_set_self hl] at h
    exact .inr ⟨(Option.some.inj h).symm, δ[i], List.getElem?_eq_getElem hl⟩
  · rw [List.getElem?_set_ne z] at h; exact .inl h
theorem weak_trans {a b c : List S} (h : weak a b) (k : weak b c) : weak a c := fun i s e => by
  rcases k i s e with q | ⟨rfl, t, q⟩
  · exact h i s q
  · rcases h i t q with r | ⟨_, u, r⟩
    · exact .inr ⟨rfl, t, r⟩
    · exact .inr ⟨rfl, u, r⟩
theorem weak_wpF : ∀ (vs : List Nat) (δ : List S), weak δ (wpF vs δ)
  | [], _ => weak_refl
  | _ :: r, _ => weak_trans weak_set (weak_wpF r _)
def SS.wipe (vs : List Nat) (a : SS Hy) : SS Hy where
  t K W := a.t K W
  f δ := a.f (wpF vs δ)
  ok K hk W δ := sdf_of fun n => sd_weak (weak_wpF vs δ) (a.okR hk n)
/-! ### for -/
def forF (g : List S → D → Option (List S)) (body : List S → Fl) (vs : List Nat) : List D → List S → Fl
  | [], δ => .nx δ
  | y :: ys, δ => match g δ y with
    | none => .no
    | some δ1 => match body δ1 with
      | .nx δ2 => forF g body vs ys (wpF vs δ2)
      | .ct δ2 => forF g body vs ys (wpF vs δ2)
      | .bk δ2 => .nx δ2
      | r => r
/-- the slots ahead of item i -/
def forI (g : List S → D → Option (List S)) (body : List S → Fl) (vs : List Nat) (ys : List D) (δ : List S) : Nat → List S
  | 0 => δ
  | i + 1 => match ys[i]? with
    | none => []
    | some y => match g (forI g body vs ys δ i) y with
      | none => []
      | some δ1 => match body δ1 with | .nx δ2 => wpF vs δ2 | .ct δ2 => wpF vs δ2 | _ => []
def SS.forS (i : SI Hy) (g : SG Hy) (vs : List Nat) (b : SS Hy) : SS Hy where
  t K W := tFor (i.t K W) (g.t K W) (b.t K W)
  f δ := Fl.exn (i.f δ) fun ys => forF g.f b.f vs ys (wpF vs δ)
  ok K hk W δ := by
    cases h : i.f δ with
    | ok ys =>
      rw [Fl.ok_exn]
      refine sdf_of fun n => ?_
      generalize hr : forF g.f b.f vs ys (wpF vs δ) = r at n
      refine sd_forP (ys := ys) (h := id) (P := fun k => forF g.f b.f vs (ys.drop k) (forI g.f b.f vs ys (wpF vs δ) k) = r) hr (ei_is (i.okI hk h) (List.map_id _).symm) (forI g.f b.f vs ys (wpF vs δ)) (weak_wpF vs δ) (fun k y hy hP => ?_) (fun hP => ?_)
      · have hlt := (List.getElem?_eq_some_iff.mp hy).1
        have hd : ys.drop k = y :: ys.drop (k + 1) := by
          rw [List.drop_eq_getElem_cons hlt, (List.getElem?_eq_some_iff.mp hy).2]
        rw [hd] at hP
        unfold forF at hP
        cases h1 : g.f (forI g.f b.f vs ys (wpF vs δ) k) y with
        | none => rw [h1] at hP; exact (n hP.symm).elim
        | some δ1 =>
          rw [h1] at hP
          simp only at hP
          have hn : b.f δ1 ≠ .no := fun z => n (by rw [← hP, z])
          have hI : ∀ δ2, (b.f δ1 = .nx δ2 ∨ b.f δ1 = .ct δ2) → forI g.f b.f vs ys (wpF vs δ) (k + 1) = wpF vs δ2 := fun δ2 e => by
            conv => lhs; unfold forI
            rw [hy]
            show (match g.f (forI g.f b.f vs ys (wpF vs δ) k) y with | none => [] | some δ1 => match b.f δ1 with | .nx δ2 => wpF vs δ2 | .ct δ2 => wpF vs δ2 | _ => []) = _
            rw [h1]
            rcases e with e | e <;> (show (match b.f δ1 with | .nx δ2 => wpF vs δ2 | .ct δ2 => wpF vs δ2 | _ => []) = _; rw [e])
          refine ⟨δ1, g.okG hk h1, sdr_mono (b.okR hk hn) (fun δ2 e => ?_) (fun s _ e => .inl ?_) (fun δ2 e => ?_) (fun δ2 e => ?_) (fun δ2 c fs e => ?_) (fun s _ e => .inr ?_)⟩
          · refine ⟨?_, by rw [hI δ2 (.inl e)]; exact weak_wpF vs δ2⟩
            rw [hI δ2 (.inl e), ← hP]; show _ = (match b.f δ1 with | .nx δ2 => _ | .ct δ2 => _ | .bk δ2 => _ | r => r); rw [e]
          · rw [← hP]; show (match b.f δ1 with | .nx δ2 => _ | .ct δ2 => _ | .bk δ2 => _ | r => r) = _; rw [e]
          · rw [← hP]; show (match b.f δ1 with | .nx δ2 => _ | .ct δ2 => _ | .bk δ2 => _ | r => r) = _; rw [e]
          · refine ⟨?_, by rw [hI δ2 (.inr e)]; exact weak_wpF vs δ2⟩
            rw [hI δ2 (.inr e), ← hP]; show _ = (match b.f δ1 with | .nx δ2 => _ | .ct δ2 => _ | .bk δ2 => _ | r => r); rw [e]
          · rw [← hP]; show (match b.f δ1 with | .nx δ2 => _ | .ct δ2 => _ | .bk δ2 => _ | r => r) = _; rw [e]
          · rw [← hP]; show (match b.f δ1 with | .nx δ2 => _ | .ct δ2 => _ | .bk δ2 => _ | r => r) = _; rw [e]
      · rw [List.drop_length] at hP; exact hP.symm
    | _ => trivial
/-! ### while -/
def whN (c : List S → M Bool) (body : List S → Fl) (vs : List Nat) : Nat → List S → Option Fl
  | 0, _ => none
  | n + 1, δ => match c δ with
    | .ok true => (match body δ with
      | .nx δ2 => whN c body vs n (wpF vs δ2)
      | .ct δ2 => whN c body vs n (wpF vs δ2)
      | .bk δ2 => some (.nx δ2)
      | r => some r)
    | .ok false => some (.nx δ)
    | _ => some .no
open Classical in
noncomputable def whF (c : List S → M Bool) (body : List S → Fl) (vs : List Nat) (δ : List S) : Fl := if h : ∃ n r, whN c body vs n δ = some r then (whN c body vs h.choose δ).getD .no else .no
theorem whN_mono {c : List S → M Bool} {body : List S → Fl} {vs : List Nat} : ∀ {n m : Nat} {δ : List S} {r : Fl}, whN c body vs n δ = some r → n ≤ m → whN c body vs m δ = some r
  | 0, _, _, _, h, _ => nomatch h
  | n + 1, 0, _, _, _, l => by omega
  | n + 1, m + 1, δ, r, h, l => by
    unfold whN at h ⊢
    cases hc : c δ with
    | ok b =>
      rw [hc] at h
      cases b with
      | false => exact h
      | true =>
        cases hb : body δ with
        | nx δ2 => simp only [hb] at h ⊢; exact whN_mono h (by omega)
        | ct δ2 => simp only [hb] at h ⊢; exact whN_mono h (by omega)
        | _ => simp only [hb] at h ⊢; exact h
    | _ => rw [hc] at h; exact h
theorem whF_of {c : List S → M Bool} {body : List S → Fl} {vs : List Nat} {n : Nat} {r : Fl} (h : whN c body vs n δ = some r) : whF c body vs δ = r := by
  unfold whF
  have e : ∃ n r, whN c body vs n δ = some r := ⟨n, r, h⟩
  rw [dif_pos e]
  obtain ⟨r', h'⟩ := e.choose_spec
  rw [h']
  have h1 := whN_mono h (Nat.le_max_left n e.choose)
  have h2 := whN_mono h' (Nat.le_max_right n e.choose)
  rw [h1] at h2
  exact (Option.some.inj h2).symm
theorem whF_to {c : List S → M Bool} {body : List S → Fl} {vs : List Nat} {r : Fl} (h : whF c body vs δ = r) (n : r ≠ .no) : ∃ n, whN c body vs n δ = some r := by
  unfold whF at h
  split at h
  · rename_i e
    obtain ⟨r', h'⟩ := e.choose_spec
    rw [h'] at h
    exact ⟨_, by rw [h']; exact congrArg some h⟩
  · exact (n h.symm).elim
/-- a while by a measure -/
theorem whF_inv {α : Type} {c : List S → M Bool} {body : List S → Fl} {vs : List Nat} {r : Fl} (I : α → List S) (P : α → Prop) (μ : α → Nat)
    (k : ∀ a, P a → (c (I a) = .ok false ∧ r = .nx (I a)) ∨ (c (I a) = .ok true ∧ ((∃ a', P a' ∧ μ a' < μ a ∧ ∃ δ2, (body (I a) = .nx δ2 ∨ body (I a) = .ct δ2) ∧ wpF vs δ2 = I a') ∨ (∃ δ2, body (I a) = .bk δ2 ∧ r = .nx δ2) ∨ ((∃ s, r = .rt s) ∧ body (I a) = r)))) :
    ∀ a, P a → whF c body vs (I a) = r := by
  have main : ∀ n a, P a → μ a < n → whN c body vs n (I a) = some r := by
    intro n
    induction n with
    | zero => intro a _ h; omega
    | succ n ih =>
      intro a pa hm
      unfold whN
      rcases k a pa with ⟨h1, h2⟩ | ⟨h1, h2⟩
      · rw [h1]; exact congrArg some h2.symm
      · rw [h1]
        rcases h2 with ⟨a', pa', hl, δ2, hb, hw⟩ | ⟨δ2, hb, he⟩ | ⟨⟨s, hs⟩, hb⟩
        · rcases hb with hb | hb <;> simp only [hb] <;> rw [hw] <;> exact ih a' pa' (by omega)
        · simp only [hb]; exact congrArg some he.symm
        · simp only [hb, hs]
  exact fun a pa => whF_of (main (μ a + 1) a pa (by omega))
noncomputable def SS.whileS (c : ST Hy) (vs : List Nat) (b : SS Hy) : SS Hy where
  t K W := tWhile (c.t K W) (b.t K W)
  f δ := whF c.f b.f vs (wpF vs δ)
  ok K hk W δ := by
    refine sdf_of fun n => ?_
    generalize hr : whF c.f b.f vs (wpF vs δ) = r at n
    obtain ⟨m0, h0⟩ := whF_to hr n
    refine sd_while (α := Nat × List S) (fun a => a.2) (fun a => whN c.f b.f vs a.1 a.2 = some r) (fun a => a.1) (m0, wpF vs δ) h0 (weak_wpF vs δ) (fun a ha => ?_)
    obtain ⟨m, δ1⟩ := a
    cases m with
    | zero => cases ha
    | succ m =>
      have ha' : whN c.f b.f vs (m + 1) δ1 = some r := ha
      unfold whN at ha'
      cases hc : c.f δ1 with
      | ok k =>
        refine ⟨k, c.okB hk hc, fun ek => ?_, fun ek => ?_⟩
        · subst ek
          rw [hc] at ha'
          have hn : b.f δ1 ≠ .no := fun z => by simp only [z] at ha'; exact n (Option.some.inj ha').symm
          refine sdr_mono (b.okR hk hn) (fun δ2 e => ?_) (fun s _ e => .inl ?_) (fun δ2 e => ?_) (fun δ2 e => ?_) (fun δ2 c fs e => ?_) (fun s _ e => .inr ?_)
          · simp only [e] at ha'; exact ⟨(m, wpF vs δ2), ha', Nat.lt_succ_self m, weak_wpF vs δ2⟩
          · simp only [e] at ha'; exact (Option.some.inj ha').symm
          · simp only [e] at ha'; exact (Option.some.inj ha').symm
          · simp only [e] at ha'; exact ⟨(m, wpF vs δ2), ha', Nat.lt_succ_self m, weak_wpF vs δ2⟩
          · simp only [e] at ha'; exact (Option.some.inj ha').symm
          · simp only [e] at ha'; exact (Option.some.inj ha').symm
        · subst ek
          rw [hc] at ha'
          exact (Option.some.inj ha').symm
      | no => rw [hc] at ha'; exact (n (Option.some.inj ha').symm).elim
      | ex e fs => rw [hc] at ha'; exact (n (Option.some.inj ha').symm).elim
/-! ### i += e over whole numbers -/
structure OA where
  r : TIp
  f : D → D → Option D
  ok : ∀ K x y z, f x y = some z → RP2 K (fun v u H Q => r v u H Q) x y z
theorem sd_aug {ti : TIp} {N B Ct : List S → Prop} {Rt : S → List S → Prop} {Xc : List S → Addr → List (Str × D) → Prop} {i : Nat} (hi : δ[i]? = some (.d x)) (h : EV K te δ (.d y)) (hr : RP2 K (fun v u H Q => ti v u H Q) x y z) (n : N (δ.set i (.d z))) : SD K W (tAug i te ti) δ N Rt B Ct Xc := by
  intro He Ge H σ Dn ok nx rt bk ct xx
  obtain ⟨G, ok0⟩ := id ok
  obtain ⟨o, eo, v, rfl, rv⟩ := ok0.sl i _ hi
  refine ⟨v, eo, ?_⟩
  have hl : i < δ.length := (List.getElem?_eq_some_iff.mp hi).1
  refine ev0 h ok fun w H' ⟨G', ok'⟩ => ?_
  obtain ⟨_, e4, rw_⟩ := ok'.top
  cases e4
  obtain ⟨o2, eo2, v2, e5, rv2⟩ := ok'.pop.sl i _ hi
  rw [eo] at eo2
  cases eo2; cases e5
  exact hr H' G' v w rv2 rw_ _ fun u ru => nx _ _ _ ⟨G', OKG.store (ok'.pop.pushD ru) hl⟩ n
def SS.aug (i : Nat) (o : OA) (e : SE Hy) : SS Hy where
  t K W := tAug i (e.t K W) o.r
  f δ := Fl.exn (gt δ i) fun s => Fl.exn (toD s) fun x => Fl.exn (e.fd δ) fun y => Fl.exn (.of (o.f x y)) fun z => .nx (δ.set i (.d z))
  ok K hk W δ := by
    cases h : gt δ i with
    | ok s =>
      rw [Fl.ok_exn]
      obtain ⟨x, rfl, hx⟩ := gt_ok h
      cases h2 : e.fd δ with
      | ok y =>
        rw [toD_d, Fl.ok_exn, Fl.ok_exn]
        cases h3 : o.f x y with
        | none => trivial
        | some z => exact sd_aug hx (e.okD hk h2) (o.ok K x y z h3) rfl
      | _ => rw [toD_d, Fl.ok_exn]; trivial
    | _ => trivial
/-! ### try, fields of the new object -/
/-- what the classes at Cs are caught by -/
def ExmOk (Hy : PySem.W.Frag → Prop) (cv : Value) (Cs : List Addr) : Prop := ∀ K, Hy K → ∀ C ∈ Cs, PySem.W.exmOne K (.ref C) cv = some true
theorem em_nil {cv : Value} : ExmOk Hy cv [] := fun _ _ _ h => nomatch h
theorem em_cons {cv : Value} {C : Addr} {Cs : List Addr} (h : ∀ K, Hy K → PySem.W.exmOne K (.ref C) cv = some true) (r : ExmOk Hy cv Cs) : ExmOk Hy cv (C :: Cs) := fun K hk D hD => by
  rcases List.mem_cons.mp hD with rfl | z
  · exact h K hk
  · exact r K hk D z
def SS.tryK (cv : Value) (Cs : List Addr) (hc : ExmOk Hy cv Cs) (i j : Nat) (b : SS Hy) : SS Hy where
  t K _ := tTryK K cv i j fun W => b.t K W
  f δ := match b.f δ with
    | .ex δ' c fs => if i < δ'.length ∧ j < δ'.length ∧ c ∈ Cs then .nx (((δ'.set i .un).set j (.d (.exc c fs))).set i .un) else .no
    | r => r
  ok K hk W δ := by
    cases h : b.f δ with
    | no => trivial
    | ex δ' c fs =>
      show SDF K W _ δ (if _ then _ else _)
      by_cases z : i < δ'.length ∧ j < δ'.length ∧ c ∈ Cs
      · rw [if_pos z]
        refine sd_try (X1 := fun d a g => Fl.ex δ' c fs = .ex d a g) (fun W' => sdr_mono (b.okR hk (by rw [h]; exact fun z => nomatch z)) (fun _ e => ?_) (fun _ _ e => ?_) (fun _ e => ?_) (fun _ e => ?_) (fun _ _ _ e => ?_) (fun _ _ e => ?_)) (fun d a g e => ?_)
        · rw [h] at e; cases e
        · rw [h] at e; cases e
        · rw [h] at e; cases e
        · rw [h] at e; cases e
        · rw [h] at e; exact e
        · rw [h] at e; cases e
        · cases e; exact ⟨z.1, z.2.1, hc K hk c z.2.2, rfl⟩
      · rw [if_neg z]; trivial
    | _ =>
      refine sd_try (X1 := fun _ _ _ => False) (fun W' => sdr_mono (b.okR hk (by rw [h]; exact fun z => nomatch z)) (fun _ e => ?_) (fun _ _ e => ?_) (fun _ e => ?_) (fun _ e => ?_) (fun _ _ _ e => ?_) (fun _ _ e => ?_)) (fun _ _ _ e => e.elim)
      · rw [h] at e; exact e
      · rw [h] at e; exact .inl e
      · rw [h] at e; exact e
      · rw [h] at e; exact e
      · rw [h] at e; cases e
      · rw [h] at e; exact .inr e
/-- slot i the new object -/
def obj : List S → Nat → M (Option Addr × Addr × List (Str × D))
  | .ob a C fs :: _, 0 => .ok (a, C, fs)
  | _ :: l, i + 1 => obj l i
  | _, _ => .no
theorem obj_0 {l : List S} {a : Option Addr} {C : Addr} {fs : List (Str × D)} : obj (.ob a C fs :: l) 0 = .ok (a, C, fs) := rfl
theorem obj_s {l : List S} {s : S} {i : Nat} : obj (s :: l) (i + 1) = obj l i := by cases s <;> rfl
theorem obj_ok : ∀ {δ : List S} {i : Nat} {p : Option Addr × Addr × List (Str × D)}, obj δ i = .ok p → δ[i]? = some (.ob p.1 p.2.1 p.2.2)
  | [], i, s, h => by cases i <;> cases h
  | a :: l, 0, s, h => by cases a <;> cases h; rfl
  | a :: l, i + 1, s, h => by rw [obj_s] at h; simpa using obj_ok h
def SS.setF (i : Nat) (f : Str) (Cs : List Addr) (hf : FldOk Hy f Cs) (e : SE Hy) : SS Hy where
  t K W := sFld K (tVar i) (e.t K W) f
  f δ := Fl.exn (obj δ i) fun p => Fl.exn (e.fd δ) fun x => if p.2.1 ∈ Cs ∧ p.2.2.length < 1000 then .nx (δ.set i (.ob p.1 p.2.1 (putD f x p.2.2))) else .no
  ok K hk W δ := by
    cases h : obj δ i with
    | ok p =>
      rw [Fl.ok_exn]
      cases h2 : e.fd δ with
      | ok x =>
        rw [Fl.ok_exn]
        by_cases z : p.2.1 ∈ Cs ∧ p.2.2.length < 1000
        · rw [if_pos z]; obtain ⟨c, n⟩ := hf K hk _ z.1; exact sd_fld (obj_ok h) (e.okD hk h2) c n z.2 rfl
        · rw [if_neg z]; trivial
      | _ => trivial
    | _ => trivial
/-! ### defs -/
def runF (b : SS Hy) (n np : Nat) (xs : List D) : M S := if xs.length = np then (match b.f (slots n xs) with | .nx _ => .ok (.d .non) | .rt s => .ok s | .ex _ c fs => .ex c fs | _ => .no) else .no
def runI (b : SS Hy) (n np : Nat) (C x : Addr) (xs : List D) : M (List (Str × D)) := if xs.length + 1 = np then (match b.f (slotsI n x C xs) with
    | .nx (.ob (some x') C' fs :: _) => if x' = x ∧ C' = C then .ok fs else .no
    | .ex _ c fs => .ex c fs | _ => .no) else .no
theorem hl_run {b : SS Hy} {n np : Nat} : ∀ xs out, RF (runF b n np) xs out → xs.length = np := fun xs out h => by
  by_cases e : xs.length = np
  · exact e
  · rcases h with ⟨s, h, _⟩ | ⟨c, cf, h, _⟩ <;> (unfold runF at h; rw [if_neg e] at h; cases h)
theorem hl_runI {b : SS Hy} {n np : Nat} {C : Addr} : ∀ xs out, RI C (runI b n np C) xs out → xs.length + 1 = np := fun xs out h => by
  by_cases e : xs.length + 1 = np
  · exact e
  · rcases h with ⟨s, h, _⟩ | ⟨c, cf, h, _⟩ <;> (have h := h 0; unfold runI at h; rw [if_neg e] at h; cases h)
theorem sd_run {b : SS Hy} {n np : Nat} {E : WX} {out : Out} (hk : Hy K) (h : RF (runF b n np) xs out) : SDef K E (b.t K E) (slots n xs) out := by
  have key : ∀ m : M S, runF b n np xs = m → m ≠ .no → ∃ r, b.f (slots n xs) = r ∧ r ≠ .no ∧ (match r with | .nx _ => M.ok (.d .non) | .rt s => .ok s | .ex _ c fs => .ex c fs | _ => .no) = m := fun m e ne => by
    unfold runF at e
    split at e
    · refine ⟨_, rfl, fun z => ?_, e⟩
      rw [z] at e; exact ne e.symm
    · exact (ne e.symm).elim
  unfold SDef
  rcases h with ⟨s, h, rfl⟩ | ⟨c, cf, h, rfl⟩
  · obtain ⟨r, h1, h2, h3⟩ := key _ h (fun z => nomatch z)
    refine sdr_mono (b.okR hk (by rw [h1]; exact h2)) (fun δ' e => ?_) (fun s _ e => ?_) (fun δ' e => ?_) (fun δ' e => ?_) (fun δ' c fs e => ?_) (fun s _ e => ?_) <;> (rw [h1] at e; subst e)
    · cases h3; rfl
    · cases h3; exact .inl rfl
    · cases h3
    · cases h3
    · cases h3
    · cases h3
  · obtain ⟨r, h1, h2, h3⟩ := key _ h (fun z => nomatch z)
    refine sdr_mono (b.okR hk (by rw [h1]; exact h2)) (fun δ' e => ?_) (fun s _ e => ?_) (fun δ' e => ?_) (fun δ' e => ?_) (fun δ' c fs e => ?_) (fun s _ e => ?_) <;> (rw [h1] at e; subst e)
    · cases h3
    · cases h3
    · cases h3
    · cases h3
    · cases h3; rfl
    · cases h3
theorem sd_runI {b : SS Hy} {n np : Nat} {E : WX} {out : Out} {x : Addr} (hk : Hy K) (h : RI C (runI b n np C) xs out) : SDefI K E x C (b.t K E) (slotsI n x C xs) out := by
  unfold SDefI
  rcases h with ⟨fs, h, rfl⟩ | ⟨c, cf, h, rfl⟩
  · replace h := h x
    unfold runI at h
    split at h
    · have hn : b.f (slotsI n x C xs) ≠ .no := fun z => by rw [z] at h; cases h
      refine sdr_mono (b.okR hk hn) (fun δ' e => ?_) (fun s _ e => ?_) (fun δ' e => ?_) (fun δ' e => ?_) (fun δ' c fs e => ?_) (fun s _ e => ?_) <;> rw [e] at h
      · cases δ' with
        | nil => cases h
        | cons s δ' =>
          cases s with
          | ob x' C' fs' =>
            cases x' with
            | none => cases h
            | some x' =>
              simp only at h
              split at h
              · rename_i q; obtain ⟨rfl, rfl⟩ := q; cases h; exact ⟨_, rfl, rfl⟩
              · cases h
          | _ => cases h
      · cases h
      · cases h
      · cases h
      · cases h
      · cases h
    · cases h
  · replace h := h x
    unfold runI at h
    split at h
    · have hn : b.f (slotsI n x C xs) ≠ .no := fun z => by rw [z] at h; cases h
      refine sdr_mono (b.okR hk hn) (fun δ' e => ?_) (fun s _ e => ?_) (fun δ' e => ?_) (fun δ' e => ?_) (fun δ' c fs e => ?_) (fun s _ e => ?_) <;> rw [e] at h
      · cases δ' with
        | nil => cases h
        | cons s δ' =>
          cases s with
          | ob x' C' fs' =>
            cases x' with
            | none => cases h
            | some x' =>
              simp only at h
              split at h <;> cases h
          | _ => cases h
      · cases h
      · cases h
      · cases h
      · cases h; rfl
      · cases h
    · cases h
end
end Far
/-! Operators, builtins as functions over data. -/
namespace Far
open PySem L2
variable {Hy : PySem.W.Frag → Prop}
section
open Classical
noncomputable def addF : D → D → Option S
  | .int i, .int j => some (.d (.int (i + j)))
  | .str a, .str b => if a.length + b.length ≤ sizeLine then some (.d (.str (a ++ b))) else none
  | .lst xs, .lst ys => if xs.length + ys.length ≤ sizeLine then some (.own (xs ++ ys)) else none
  | .tup xs, .tup ys => if xs.length + ys.length ≤ sizeLine then some (.d (.tup (xs ++ ys))) else none
  | _, _ => none
noncomputable def oAdd : O2 where
  r K := rAddU K
  f := addF
  ok K x y s h := by
    unfold addF at h
    split at h
    · cases h; exact add_int
    · split at h
      · cases h; exact add_str (by assumption)
      · cases h
    · split at h
      · cases h; exact add_lst (by assumption)
      · cases h
    · split at h
      · cases h; exact add_tup (by assumption)
      · cases h
    · cases h
def subF : D → D → Option S
  | .int i, .int j => some (.d (.int (i - j)))
  | _, _ => none
def oSub : O2 where
  r K := rI0 fun i j => .int (i - j)
  f := subF
  ok K x y s h := by
    unfold subF at h
    split at h
    · cases h; exact sub_int
    · cases h
noncomputable def mulF : D → D → Option S
  | .int i, .int j => if CMul i j ∨ CMulW i j then some (.d (.int (i * j))) else none
  | .lst xs, .int k => if -(2 ^ 63) ≤ k ∧ k < 2 ^ 63 ∧ xs.length * k.toNat ≤ sizeLine then some (.own (List.replicate k.toNat xs).flatten) else none
  | .tup xs, .int k => if xs ≠ [] ∧ 1 ≤ k ∧ xs.length * k.toNat ≤ 1000000 ∧ k ≤ 1000000 then some (.d (.tup (List.replicate k.toNat xs).flatten)) else none
  | _, _ => none
noncomputable def oMul : O2 where
  r K := rMulU K
  f := mulF
  ok K x y s h := by
    unfold mulF at h
    split at h
    · split at h
      · rename_i q
        cases h
        rcases q with q | q
        · exact mul_int q
        · exact mul_wide q
      · cases h
    · split at h
      · rename_i q; cases h; exact mul_lst q.1 q.2.1 q.2.2
      · cases h
    · split at h
      · rename_i k q
        cases h
        by_cases e : k = 1
        · subst e
          have z : ∀ xs : List D, (List.replicate (1 : Int).toNat xs).flatten = xs := fun xs => by show (List.replicate 1 xs).flatten = _; simp
          rw [z]; exact mul_tup1
        · exact mul_tup q.1 (by omega) q.2.2.1 q.2.2.2
      · cases h
    · cases h
noncomputable def divF : D → D → Option S
  | .int i, .int j => if CDivW i j then some (.d (.int (i / j))) else none
  | _, _ => none
noncomputable def oDiv : O2 where
  r K := rI CDivW fun i j => .int (i / j)
  f := divF
  ok K x y s h := by
    unfold divF at h
    split at h
    · split at h
      · cases h; exact fdiv_int (by assumption)
      · cases h
    · cases h
def modF : D → D → Option S
  | .int i, .int j => if 0 < j then some (.d (.int (i % j))) else none
  | _, _ => none
def oMod : O2 where
  r K := rI (fun _ j => 0 < j) fun i j => .int (i % j)
  f := modF
  ok K x y s h := by
    unfold modF at h
    split at h
    · split at h
      · cases h; exact mod_int (by assumption)
      · cases h
    · cases h
noncomputable def powF : D → D → Option S
  | .int i, .int j => if CPow i j then some (.d (.int (i ^ j.toNat))) else none
  | _, _ => none
noncomputable def oPow : O2 where
  r K := rI CPow fun i j => .int (i ^ j.toNat)
  f := powF
  ok K x y s h := by
    unfold powF at h
    split at h
    · split at h
      · cases h; exact pow_int (by assumption)
      · cases h
    · cases h
def ltF : D → D → Option S
  | .int i, .int j => some (.d (.bl (decide (i < j)))) | _, _ => none
def leF : D → D → Option S
  | .int i, .int j => some (.d (.bl (decide (i ≤ j)))) | _, _ => none
def gtF : D → D → Option S
  | .int i, .int j => some (.d (.bl (decide (j < i)))) | _, _ => none
def geF : D → D → Option S
  | .int i, .int j => some (.d (.bl (decide (j ≤ i)))) | _, _ => none
def oLt : O2 := ⟨fun K => rI0 fun i j => .bl (decide (i < j)), ltF, fun K x y s h => by
  unfold ltF at h; split at h
  · cases h; exact lt_int
  · cases h⟩
def oLe : O2 := ⟨fun K => rI0 fun i j => .bl (decide (i ≤ j)), leF, fun K x y s h => by
  unfold leF at h; split at h
  · cases h; exact le_int
  · cases h⟩
def oGt : O2 := ⟨fun K => rI0 fun i j => .bl (decide (j < i)), gtF, fun K x y s h => by
  unfold gtF at h; split at h
  · cases h; exact gt_int
  · cases h⟩
def oGe : O2 := ⟨fun K => rI0 fun i j => .bl (decide (j ≤ i)), geF, fun K x y s h => by
  unfold geF at h; split at h
  · cases h; exact ge_int
  · cases h⟩
/-- two that can be compared -/
def cmpD (x y : D) : Bool := pur x && pur y && decide ((pd x).depth ≤ 64) && decide ((pd y).depth ≤ 64)
def eqB : D → D → Option Bool
  | .int i, .int j => some (decide (i = j))
  | .str i, .str j => some (decide (i = j))
  | .bl i, .bl j => some (decide (i = j))
  | .int _, .non => some false
  | .non, .int _ => some false
  | .non, .non => some true
  | .scr xs, .lst [] => if xs.all (fun x => match x with | .int _ => true | _ => false) = true then some xs.isEmpty else none
  | x, y => if cmpD x y = true then some (eqD x y) else none
theorem all_ints : ∀ {xs : List D}, xs.all (fun x => match x with | .int _ => true | _ => false) = true → ∃ ns : List Int, xs = ns.map .int
  | [], _ => ⟨[], rfl⟩
  | x :: xs, h => by
    rw [List.all_cons, Bool.and_eq_true] at h
    obtain ⟨ns, rfl⟩ := all_ints h.2
    cases x with
    | int i => exact ⟨i :: ns, rfl⟩
    | _ => exact (nomatch h.1)
def eqF2 (x y : D) : Option S := match x, y with
  | .scr _, .lst [] => none
  | x, y => (eqB x y).map fun b => .d (.bl b)
def neF2 (x y : D) : Option S := (eqB x y).map fun b => .d (.bl !b)
theorem cmpD_to {x y : D} (h : cmpD x y = true) : pur x = true ∧ pur y = true ∧ (pd x).depth ≤ 64 ∧ (pd y).depth ≤ 64 := by
  unfold cmpD at h
  simp only [Bool.and_eq_true, decide_eq_true_eq] at h
  exact ⟨h.1.1.1, h.1.1.2, h.1.2, h.2⟩
def oEq : O2 where
  r K := rEqU K
  f := eqF2
  ok K x y s h := by
    unfold eqF2 at h
    split at h
    · cases h
    · unfold eqB at h
      split at h
      · cases h; exact eq_int
      · cases h; exact eq_str
      · cases h; exact eq_bl
      · cases h; exact eq_int_non
      · cases h; exact eq_non_int
      · cases h; exact eq_non
      · rename_i q; exact (q _ rfl rfl).elim
      · split at h
        · rename_i q
          obtain ⟨q1, q2, q3, q4⟩ := cmpD_to q
          cases h; exact eq_D q1 q2 q3 q4
        · cases h
def oNe : O2 where
  r K := rNeU K
  f := neF2
  ok K x y s h := by
    unfold neF2 eqB at h
    split at h
    · cases h; exact ne_int
    · cases h; exact ne_str
    · cases h; exact ne_bl
    · cases h; exact ne_int_non
    · cases h; exact ne_non_int
    · cases h; exact ne_non
    · split at h
      · rename_i q
        obtain ⟨ns, rfl⟩ := all_ints q
        cases h
        have e : (ns.map D.int).isEmpty = ns.isEmpty := by cases ns <;> rfl
        rw [e]; exact ne_scr_nil
      · cases h
    · split at h
      · rename_i q
        obtain ⟨q1, q2, q3, q4⟩ := cmpD_to q
        cases h; exact ne_D q1 q2 q3 q4
      · cases h
def isNF (x y : D) : Option S := match y with | .non => some (.d (.bl (isNon x))) | _ => none
def notNF (x y : D) : Option S := match y with | .non => some (.d (.bl (!isNon x))) | _ => none
def oIsN : O2 := ⟨fun K => rIsN, isNF, fun K x y s h => by
  unfold isNF at h; split at h
  · cases h; exact is_non
  · cases h⟩
def oNotN : O2 := ⟨fun K => rNotN, notNF, fun K x y s h => by
  unfold notNF at h; split at h
  · cases h; exact not_non
  · cases h⟩
def isBF (x y : D) : Option S := match x, y with | .bl a, .bl b => some (.d (.bl (decide (a = b)))) | _, _ => none
def notBF (x y : D) : Option S := match x, y with | .bl a, .bl b => some (.d (.bl (!decide (a = b)))) | _, _ => none
def oIsB : O2 := ⟨fun K => rIsB, isBF, fun K x y s h => by
  unfold isBF at h; split at h
  · cases h; exact is_bl
  · cases h⟩
def oNotB : O2 := ⟨fun K => rNotB, notBF, fun K x y s h => by
  unfold notBF at h; split at h
  · cases h; exact not_bl
  · cases h⟩
/-- xs[i] -/
def ixF : D → D → Option S
  | .lst xs, .int i => (L2.atI xs i).map .d
  | .tup xs, .int i => (L2.atI xs i).map .d
  | .scr xs, .int i => (L2.atI xs i).map .d
  | .str z, .int i => if z.length ≤ sizeLine then (L2.atI z.cps.toList i).map fun c => .d (.str ⟨#[c]⟩) else none
  | _, _ => none
def oIx : O2 where
  r K := rIx K
  f := ixF
  ok K x y s h := by
    unfold ixF at h
    split at h
    · obtain ⟨w, e, rfl⟩ := Option.map_eq_some_iff.mp h; exact ix_lst e
    · obtain ⟨w, e, rfl⟩ := Option.map_eq_some_iff.mp h; exact ix_tup e
    · obtain ⟨w, e, rfl⟩ := Option.map_eq_some_iff.mp h; exact ix_scr e
    · split at h
      · obtain ⟨w, e, rfl⟩ := Option.map_eq_some_iff.mp h; exact ix_str (by assumption) e
      · cases h
    · cases h
/-! x in xs -/
theorem eqV_F {x y : D} {v u : V} (hv : v = vOf x) (hu : u = vOf y) : eqV v u = eqF x y := by subst hv hu; rfl
def inF (x y : D) : Option Bool := match y with
  | .lst ys => if flatD x = true ∧ ys.all flatD = true then some (ys.any fun y => eqF y x) else none
  | .tup ys => if flatD x = true ∧ ys.all flatD = true then some (ys.any fun y => eqF y x) else none
  | _ => none
def negF : D → Option S
  | .int i => some (.d (.int (-i))) | _ => none
def oNeg : O1 := ⟨fun K => rU fun i => .int (-i), negF, fun K x s h => by
  unfold negF at h; split at h
  · cases h; exact neg_int
  · cases h⟩
/-! ### builtins -/
def lenF : List D → Option S
  | [.lst xs] => some (.d (.int xs.length)) | [.tup xs] => some (.d (.int xs.length)) | [.scr xs] => some (.d (.int xs.length))
  | [.str z] => if z.length ≤ sizeLine then some (.d (.int z.length)) else none
  | _ => none
def bLen : OB Hy where
  r K := rLenU K
  f := lenF
  ok K hk xs s h := by
    unfold lenF at h
    split at h
    · cases h; exact len_lst
    · cases h; exact len_tup
    · cases h; exact len_scr
    · split at h
      · cases h; exact len_str (by assumption)
      · cases h
    · cases h
def max2F : List D → Option S
  | [.int i, .int j] => some (.d (.int (max i j))) | _ => none
def min2F : List D → Option S
  | [.int i, .int j] => some (.d (.int (min i j))) | _ => none
def bMax2 : OB Hy := ⟨fun _ => rMx2, max2F, fun K hk xs s h => by
  unfold max2F at h; split at h
  · cases h; exact max2
  · cases h⟩
def bMin2 : OB Hy := ⟨fun _ => rMn2, min2F, fun K hk xs s h => by
  unfold min2F at h; split at h
  · cases h; exact min2
  · cases h⟩
def bool? : D → Option Bool | .bl b => some b | _ => none
def bools : List D → Option (List Bool)
  | [] => some [] | .bl b :: r => (bools r).map (b :: ·) | _ => none
theorem bools_to : ∀ {xs : List D} {bs : List Bool}, bools xs = some bs → xs = bs.map .bl
  | [], bs, h => by cases h; rfl
  | x :: r, bs, h => by
    cases x with
    | bl b =>
      unfold bools at h
      obtain ⟨cs, e, rfl⟩ := Option.map_eq_some_iff.mp h
      rw [bools_to e]; rfl
    | _ => cases h
theorem bools_map {α : Type} (f : α → Bool) : ∀ l : List α, bools (l.map fun x => D.bl (f x)) = some (l.map f)
  | [] => rfl
  | x :: r => by
    show (bools (r.map fun x => D.bl (f x))).map (f x :: ·) = _
    rw [bools_map f r]; rfl
def allF : List D → Option S
  | [.lst xs] => (bools xs).map fun bs => .d (.bl (bs.all id)) | _ => none
def bAll : OB Hy := ⟨fun K => rAll K, allF, fun K hk xs s h => by
  unfold allF at h; split at h
  · obtain ⟨bs, e, rfl⟩ := Option.map_eq_some_iff.mp h
    rw [bools_to e]; exact all_bls
  · cases h⟩
def tupleF : List D → Option S
  | [.lst xs] => some (.d (.tup xs)) | [.tup xs] => some (.d (.tup xs)) | _ => none
def bTuple : OB Hy := ⟨fun K => rTupU K, tupleF, fun K hk xs s h => by
  unfold tupleF at h; split at h
  · cases h; exact tuple_lst
  · cases h; exact tuple_tup
  · cases h⟩
def listF : List D → Option S
  | [.lst xs] => some (.own xs) | [.tup xs] => some (.own xs) | _ => none
def bList : OB Hy := ⟨fun K => rLstU K, listF, fun K hk xs s h => by
  unfold listF at h; split at h
  · cases h; exact list_lst
  · cases h; exact list_tup
  · cases h⟩
def intF : List D → Option S
  | [.int i] => some (.d (.int i)) | [.bl b] => some (.d (.int (if b then 1 else 0))) | _ => none
def bInt : OB Hy := ⟨fun K => rIntU, intF, fun K hk xs s h => by
  unfold intF at h; split at h
  · cases h; exact int_int
  · cases h; exact int_bl
  · cases h⟩
def strF : List D → Option S
  | [.int i] => if i.natAbs.log2 < 1920 then some (.d (.str (toString i))) else none | [.str z] => some (.d (.str z)) | _ => none
def bStr : OB Hy := ⟨fun K => rStrU, strF, fun K hk xs s h => by
  unfold strF at h; split at h
  · split at h
    · cases h; exact str_int (by assumption)
    · cases h
  · cases h; exact str_str
  · cases h⟩
/-! ### isinstance -/
/-- what is known of the classes: own classes told as instances, as exceptions; class in class; class in a type; type in a class -/
structure Tab where
  ins : List Addr
  exc : List Addr
  cc : List (Addr × Addr × Bool)
  ct : List (Addr × String × Bool)
  tc : List (String × Addr × Bool)
def Tab.Ok (Hy : PySem.W.Frag → Prop) (T : Tab) : Prop := ∀ K, Hy K → (∀ C ∈ T.ins, InsC K C) ∧ (∀ C ∈ T.exc, ExcC K C) ∧ (∀ p ∈ T.cc, PySem.W.kitOne K (.ref p.1) (.ref p.2.1) = some p.2.2) ∧
  (∀ p ∈ T.ct, PySem.W.kitOne K (.ref p.1) (.type p.2.1) = some p.2.2) ∧ ∀ p ∈ T.tc, PySem.W.kitOne K (.type p.1) (.ref p.2.1) = some p.2.2
def find2 {α β : Type} [DecidableEq α] [DecidableEq β] : List (α × β × Bool) → α → β → Option Bool
  | [], _, _ => none
  | p :: r, a, b => if p.1 = a ∧ p.2.1 = b then some p.2.2 else find2 r a b
theorem find2_mem {α β : Type} [DecidableEq α] [DecidableEq β] : ∀ {l : List (α × β × Bool)} {a : α} {b : β} {k : Bool}, find2 l a b = some k → (a, b, k) ∈ l
  | [], _, _, _, h => nomatch h
  | p :: r, a, b, k, h => by
    unfold find2 at h
    split at h
    · rename_i q
      obtain ⟨p1, p2, p3⟩ := p
      obtain ⟨q1, q2⟩ := q
      cases h
      dsimp only at q1 q2
      subst q1 q2
      exact List.mem_cons_self ..
    · exact List.mem_cons_of_mem _ (find2_mem h)
def tyOf (T : Tab) : D → Option (Addr ⊕ String)
  | .ins C _ => if C ∈ T.ins then some (.inl C) else none
  | .exc C [] => if C ∈ T.exc then some (.inl C) else none
  | x => if known x = true then some (.inr (tyN x)) else none
def oneI (T : Tab) (t : Addr ⊕ String) : D → Option Bool
  | .cls A => match t with | .inl C => find2 T.cc C A | .inr n => find2 T.tc n A
  | .ty m => match t with | .inl C => find2 T.ct C m | .inr n => kitB n m
  | _ => none
def isCls : D → Bool | .ty _ => true | .cls _ => true | _ => false
theorem cls_all : ∀ {cs : List D}, cs.all isCls = true → ∃ us, cs.mapM clsD = some us
  | [], _ => ⟨[], rfl⟩
  | c :: r, h => by
    rw [List.all_cons, Bool.and_eq_true] at h
    obtain ⟨us, e⟩ := cls_all h.2
    cases c with
    | ty n => exact ⟨.type n :: us, by rw [List.mapM_cons, e]; rfl⟩
    | cls n => exact ⟨.ref n :: us, by rw [List.mapM_cons, e]; rfl⟩
    | _ => exact (nomatch h.1)
def anyI (T : Tab) (t : Addr ⊕ String) : List D → Option Bool
  | [] => some false
  | c :: r => match oneI T t c with | some true => if r.all isCls = true then some true else none | some false => anyI T t r | none => none
def isiF (T : Tab) : List D → Option S
  | [x, .tup cs] => (tyOf T x).bind fun t => (anyI T t cs).map fun b => .d (.bl b)
  | [x, c] => (tyOf T x).bind fun t => (oneI T t c).map fun b => .d (.bl b)
  | _ => none
def valOf : Addr ⊕ String → Value | .inl C => .ref C | .inr n => .type n
theorem tyOf_kin {K : PySem.W.Frag} {T : Tab} (hT : T.Ok Hy) (hk : Hy K) {x : D} {t : Addr ⊕ String} (h : tyOf T x = some t) : Kin K x (valOf t) := by
  obtain ⟨h1, h2, _⟩ := hT K hk
  unfold tyOf at h
  split at h
  · split at h
    · cases h; exact .ins (h1 _ (by assumption))
    · cases h
  · split at h
    · cases h; exact .exc (h2 _ (by assumption))
    · cases h
  · split at h
    · cases h; exact .ty (by assumption)
    · cases h
theorem oneI_kit {K : PySem.W.Frag} {T : Tab} (hT : T.Ok Hy) (hk : Hy K) {t : Addr ⊕ String} {c : D} {b : Bool} (h : oneI T t c = some b) : ∃ cv, clsD c = some cv ∧ PySem.W.kitOne K (valOf t) cv = some b := by
  obtain ⟨_, _, h3, h4, h5⟩ := hT K hk
  unfold oneI at h
  split at h
  · refine ⟨_, rfl, ?_⟩
    split at h
    · exact h3 _ (find2_mem h)
    · exact h5 _ (find2_mem h)
  · refine ⟨_, rfl, ?_⟩
    split at h
    · exact h4 _ (find2_mem h)
    · exact kit_ty h
  · cases h
theorem anyI_kit {K : PySem.W.Frag} {T : Tab} (hT : T.Ok Hy) (hk : Hy K) {t : Addr ⊕ String} : ∀ {cs : List D} {b : Bool}, anyI T t cs = some b → ∃ us, cs.mapM clsD = some us ∧ PySem.W.kitAny K (valOf t) us = some b
  | [], b, h => by cases h; exact ⟨[], rfl, kitAny_nil⟩
  | c :: r, b, h => by
    unfold anyI at h
    cases e : oneI T t c with
    | none => rw [e] at h; cases h
    | some k =>
      obtain ⟨cv, e1, e2⟩ := oneI_kit hT hk e
      rw [e] at h
      cases k with
      | true =>
        simp only at h
        split at h
        · cases h
          obtain ⟨us, e3⟩ := cls_all (by assumption)
          exact ⟨cv :: us, by rw [List.mapM_cons, e1, e3]; rfl, kitAny_t e2⟩
        · cases h
      | false =>
        obtain ⟨us, e3, e4⟩ := anyI_kit hT hk h
        exact ⟨cv :: us, by rw [List.mapM_cons, e1, e3]; rfl, kitAny_f e2 e4⟩
end
end Far
/-! More builtins: isinstance, in, max, min, sum, count, index. -/
namespace Far
open PySem L2
variable {Hy : PySem.W.Frag → Prop}
section
theorem isiF_ok {K : PySem.W.Frag} {T : Tab} (hT : T.Ok Hy) (hk : Hy K) {xs : List D} {s : S} (h : isiF T xs = some s) : RVN K (rIsU K) xs s := by
  unfold isiF at h
  split at h
  · rename_i x cs
    obtain ⟨t, e, h⟩ := Option.bind_eq_some_iff.mp h
    obtain ⟨b, e2, rfl⟩ := Option.map_eq_some_iff.mp h
    obtain ⟨us, e3, e4⟩ := anyI_kit hT hk e2
    exact is_anyT (tyOf_kin hT hk e) e3 e4
  · rename_i x c _
    obtain ⟨t, e, h⟩ := Option.bind_eq_some_iff.mp h
    obtain ⟨b, e2, rfl⟩ := Option.map_eq_some_iff.mp h
    obtain ⟨cv, e3, e4⟩ := oneI_kit hT hk e2
    exact is_any (tyOf_kin hT hk e) e3 e4
  · cases h
def bIsi (T : Tab) (hT : T.Ok Hy) : OB Hy := ⟨fun K => rIsU K, isiF T, fun _ hk _ _ h => isiF_ok hT hk h⟩
/-! ### in -/
theorem inV_F {x : D} {xs : List D} : inV (vOf x) (xs.map vOf) = xs.any fun y => eqF y x := by
  unfold inV eqF; rw [List.any_map]; rfl
theorem in_seq {K : PySem.W.Frag} {x y : D} {xs : List D} (neg : Bool) (hy : y = .lst xs ∨ y = .tup xs) (fx : flatD x = true) (fxs : xs.all flatD = true) : RV2 K (rIn K neg) x y (.d (.bl (if neg then !(xs.any fun y => eqF y x) else xs.any fun y => eqF y x))) := by
  intro He Ge H G σ δ v u ok rv ru Q q
  obtain ⟨e1, f1⟩ := flat_rp fx rv
  have main : ∀ p us, (SqL K H p us ∨ SqT K H p us) → RpL K G xs us → rIn K neg v (.ref p) H Q := fun p us hs r => by
    obtain ⟨e2, f2⟩ := flat_rpl fxs r
    refine ⟨p, us, rfl, hs, f1, f2, ?_⟩
    rw [e1, e2, inV_F]
    exact q _ _ (done ok .bl)
  rcases hy with rfl | rfl
  · cases ru with | lst h r => exact main _ _ (.inl (SqL.of (ok.gh _ _ h))) r
  · cases ru with | tup h r => exact main _ _ (.inr (ok.gh.t h.t)) r
def inS (x y : D) : Option Bool := match x, y with
  | .str i, .str j => some (!(Builtin.Str.occurrences j i 0 j.length 1).isEmpty)
  | x, y => inF x y
def oIn : O2 := ⟨fun K => rInU K, fun x y => (inS x y).map fun b => .d (.bl b), fun K x y s h => by
  obtain ⟨b, e, rfl⟩ := Option.map_eq_some_iff.mp h
  unfold inS at e
  split at e
  · cases e
    exact .inr (fun He Ge H G σ δ v u ok rv ru Q q => by cases rv; cases ru; exact ⟨_, _, rfl, rfl, q _ _ (done ok .bl)⟩)
  · unfold inF at e
    split at e
    · split at e
      · rename_i q; cases e; exact .inl (in_seq false (.inl rfl) q.1 q.2)
      · cases e
    · split at e
      · rename_i q; cases e; exact .inl (in_seq false (.inr rfl) q.1 q.2)
      · cases e
    · cases e⟩
def oNotIn : O2 := ⟨fun K => rNotInU K, fun x y => (inS x y).map fun b => .d (.bl (!b)), fun K x y s h => by
  obtain ⟨b, e, rfl⟩ := Option.map_eq_some_iff.mp h
  unfold inS at e
  split at e
  · cases e
    exact .inr (fun He Ge H G σ δ v u ok rv ru Q q => by cases rv; cases ru; exact ⟨_, _, rfl, rfl, q _ _ (done ok .bl)⟩)
  · unfold inF at e
    split at e
    · split at e
      · rename_i q; cases e; exact .inl (in_seq true (.inl rfl) q.1 q.2)
      · cases e
    · split at e
      · rename_i q; cases e; exact .inl (in_seq true (.inr rfl) q.1 q.2)
      · cases e
    · cases e⟩
/-! ### lists of whole numbers -/
def intsD : List D → Option (List Int)
  | [] => some [] | .int b :: r => (intsD r).map (b :: ·) | _ => none
theorem intsD_to : ∀ {xs : List D} {bs : List Int}, intsD xs = some bs → xs = bs.map .int
  | [], bs, h => by cases h; rfl
  | x :: r, bs, h => by
    cases x with
    | int b =>
      unfold intsD at h
      obtain ⟨cs, e, rfl⟩ := Option.map_eq_some_iff.mp h
      rw [intsD_to e]; rfl
    | _ => cases h
theorem ints_map {α : Type} (f : α → Int) : ∀ l : List α, intsD (l.map fun x => D.int (f x)) = some (l.map f)
  | [] => rfl
  | x :: r => by
    show (intsD (r.map fun x => D.int (f x))).map (f x :: ·) = _
    rw [ints_map f r]; rfl
theorem ints_id (l : List Int) : intsD (l.map D.int) = some l := by have := ints_map (fun i : Int => i) l; rwa [List.map_id'] at this
def sumF : List D → Option S
  | [.lst xs] => (intsD xs).map fun ns => .d (.int ns.sum) | _ => none
def bSum : OB Hy := ⟨fun K => rSum K, sumF, fun K hk xs s h => by
  unfold sumF at h; split at h
  · obtain ⟨ns, e, rfl⟩ := Option.map_eq_some_iff.mp h
    rw [intsD_to e]
    intro He Ge H G σ δ vs ok r Q q
    cases r with
    | cons r r2 =>
      cases r2
      cases r with
      | lst hl r => rw [rp_ints_inv r] at hl; exact ⟨_, ns, rfl, SqL.of (ok.gh _ _ hl), q _ _ (done ok .int)⟩
  · cases h⟩
theorem foldl_mx {f : Int → Int → Int} (R : Int → Int → Prop) (rr : ∀ a, R a a) (rt : ∀ a b c, R a b → R b c → R a c) (hl : ∀ a b, R a (f a b)) (hr : ∀ a b, R b (f a b)) (hc : ∀ a b, f a b = a ∨ f a b = b) : ∀ (l : List Int) (n : Int), (l.foldl f n = n ∨ l.foldl f n ∈ l) ∧ R n (l.foldl f n) ∧ ∀ y ∈ l, R y (l.foldl f n)
  | [], n => ⟨.inl rfl, rr n, fun _ h => nomatch h⟩
  | a :: l, n => by
    obtain ⟨h1, h2, h3⟩ := foldl_mx R rr rt hl hr hc l (f n a)
    rw [List.foldl_cons]
    refine ⟨?_, rt _ _ _ (hl n a) h2, fun y hy => ?_⟩
    · rcases h1 with h1 | h1
      · rw [h1]
        rcases hc n a with e | e
        · exact .inl e
        · exact .inr (by rw [e]; exact List.mem_cons_self ..)
      · exact .inr (List.mem_cons_of_mem _ h1)
    · rcases List.mem_cons.mp hy with rfl | hy
      · exact rt _ _ _ (hr n y) h2
      · exact h3 y hy
theorem fold_max (l : List Int) (n : Int) : (l.foldl max n) ∈ n :: l ∧ ∀ y ∈ n :: l, y ≤ l.foldl max n := by
  obtain ⟨h1, h2, h3⟩ := foldl_mx (f := max) (fun a b => a ≤ b) (fun a => Int.le_refl a) (fun a b c => Int.le_trans) (fun a b => by omega) (fun a b => by omega) (fun a b => by omega) l n
  refine ⟨List.mem_cons.mpr h1, fun y hy => ?_⟩
  rcases List.mem_cons.mp hy with rfl | hy
  · exact h2
  · exact h3 y hy
theorem fold_min (l : List Int) (n : Int) : (l.foldl min n) ∈ n :: l ∧ ∀ y ∈ n :: l, l.foldl min n ≤ y := by
  obtain ⟨h1, h2, h3⟩ := foldl_mx (f := min) (fun a b => b ≤ a) (fun a => Int.le_refl a) (fun a b c h k => Int.le_trans k h) (fun a b => by omega) (fun a b => by omega) (fun a b => by omega) l n
  refine ⟨List.mem_cons.mpr h1, fun y hy => ?_⟩
  rcases List.mem_cons.mp hy with rfl | hy
  · exact h2
  · exact h3 y hy
def max1F : List D → Option S
  | [.lst xs] => match intsD xs with | some (n :: r) => some (.d (.int (r.foldl max n))) | _ => none
  | _ => none
def min1F : List D → Option S
  | [.lst xs] => match intsD xs with | some (n :: r) => some (.d (.int (r.foldl min n))) | _ => none
  | _ => none
theorem foldl_uniq_max {ns : List Int} {m k : Int} (h1 : m ∈ ns ∧ ∀ y ∈ ns, y ≤ m) (h2 : k ∈ ns) (h3 : ∀ y, y ∈ ns → y ≤ k) : k = m := by have := h1.2 k h2; have := h3 m h1.1; omega
theorem foldl_uniq_min {ns : List Int} {m k : Int} (h1 : m ∈ ns ∧ ∀ y ∈ ns, m ≤ y) (h2 : k ∈ ns) (h3 : ∀ y, y ∈ ns → k ≤ y) : k = m := by have := h1.2 k h2; have := h3 m h1.1; omega
def bMax1 : OB Hy := ⟨fun K => rMax K, max1F, fun K hk xs s h => by
  unfold max1F at h; split at h
  · split at h
    · rename_i n r e
      cases h
      rw [intsD_to e]
      intro He Ge H G σ δ vs ok rp Q q
      cases rp with
      | cons rp r2 =>
        cases r2
        cases rp with
        | lst hl rp =>
          rw [rp_ints_inv rp] at hl
          exact ⟨_, n :: r, rfl, SqL.of (ok.gh _ _ hl), Nat.zero_lt_succ _, fun k hk h3 => by rw [foldl_uniq_max (fold_max r n) hk h3]; exact q _ _ (done ok .int)⟩
    · cases h
  · cases h⟩
def bMin1 : OB Hy := ⟨fun K => rMin K, min1F, fun K hk xs s h => by
  unfold min1F at h; split at h
  · split at h
    · rename_i n r e
      cases h
      rw [intsD_to e]
      intro He Ge H G σ δ vs ok rp Q q
      cases rp with
      | cons rp r2 =>
        cases r2
        cases rp with
        | lst hl rp =>
          rw [rp_ints_inv rp] at hl
          exact ⟨_, n :: r, rfl, SqL.of (ok.gh _ _ hl), Nat.zero_lt_succ _, fun k hk h3 => by rw [foldl_uniq_min (fold_min r n) hk h3]; exact q _ _ (done ok .int)⟩
    · cases h
  · cases h⟩
def ints1 : List D → Option (List Int) | [.lst xs] => intsD xs | _ => none
theorem ints1_to {xs : List D} {ns : List Int} (h : ints1 xs = some ns) : xs = [.lst (ns.map .int)] := by
  unfold ints1 at h; split at h
  · rw [intsD_to h]
  · cases h
def one : List D → Option D | [y] => some y | _ => none
theorem one_to {xs : List D} {y : D} (h : one xs = some y) : xs = [y] := by
  unfold one at h; split at h
  · cases h; rfl
  · cases h
/-- max(xs, default=d), min(xs, default=d) -/
def SE.mxD (f : Int → Int → Int) (a k : SA Hy) : SE Hy where
  t K W := tCKw (rMxD f K) (a.t K W) (k.t K W)
  f δ := (a.f δ).bin fun xs => (M.of (ints1 xs)).bin fun ns => (k.f δ).bin fun ds => (M.of (one ds)).bin fun d => .ok (.d (Far.mxD f ns d))
  ok K hk W δ := by
    cases h : a.f δ with
    | ok xs =>
      rw [M.ok_bin]
      cases h2 : ints1 xs with
      | none => trivial
      | some ns =>
        rw [M.of_some, M.ok_bin]
        cases h3 : k.f δ with
        | ok ds =>
          rw [M.ok_bin]
          cases h4 : one ds with
          | none => trivial
          | some d =>
            have ha := a.okA hk (W := W) h
            have hb := k.okA hk (W := W) h3
            rw [ints1_to h2] at ha
            rw [one_to h4] at hb
            exact ev_mxD ha hb
        | _ => trivial
    | _ => trivial
def SE.dnew : SE Hy := ⟨fun _ _ => tDNewK, fun _ => .ok (.d (.dK [])), fun _ _ _ _ => ev_dnew⟩
/-! ### xs.count(y), xs.index(y) -/
def cntF (x : D) (ys : List D) : Option S := match x, ys with
  | .lst xs, [y] => if flatD y = true ∧ xs.all flatD = true then some (.d (.int (xs.countP fun z => eqF z y : Nat))) else none
  | _, _ => none
def SE.cnt (o : SE Hy) (a : SA Hy) : SE Hy where
  t K W := tBM K "list" (rCnt K) (o.t K W) (a.t K W)
  f δ := (o.fd δ).bin fun x => (a.f δ).bin fun ys => .of (cntF x ys)
  ok K hk W δ := by
    cases h : o.fd δ with
    | ok x =>
      cases h2 : a.f δ with
      | ok ys =>
        rw [M.ok_bin, M.ok_bin]
        unfold cntF
        split
        · split
          · rename_i q
            exact ev_cnt (o.okD hk h) (a.okA hk h2) q.1 q.2
          · trivial
        · trivial
      | _ => trivial
    | _ => trivial
def cntTF (x : D) (ys : List D) : Option S := match x, ys with
  | .tup xs, [y] => if flatD y = true ∧ xs.all flatD = true then some (.d (.int (xs.countP fun z => eqF z y : Nat))) else none
  | _, _ => none
def SE.cntT (o : SE Hy) (a : SA Hy) : SE Hy where
  t K W := tBP K (rCntT K) (o.t K W) (a.t K W)
  f δ := (o.fd δ).bin fun x => (a.f δ).bin fun ys => .of (cntTF x ys)
  ok K hk W δ := by
    cases h : o.fd δ with
    | ok x =>
      cases h2 : a.f δ with
      | ok ys =>
        rw [M.ok_bin, M.ok_bin]
        unfold cntTF
        split
        · split
          · rename_i q
            exact ev_cntT (o.okD hk h) (a.okA hk h2) q.1 q.2
          · trivial
        · trivial
      | _ => trivial
    | _ => trivial
def idxF (x : D) (ys : List D) : Option S := match x, ys with
  | .lst xs, [y] => if flatD y = true ∧ xs.all flatD = true then (xs.findIdx? fun z => eqF z y).map fun n => .d (.int (n : Nat)) else none
  | _, _ => none
def SE.idx (o : SE Hy) (a : SA Hy) : SE Hy where
  t K W := tBM K "list" (rIndex K) (o.t K W) (a.t K W)
  f δ := (o.fd δ).bin fun x => (a.f δ).bin fun ys => .of (idxF x ys)
  ok K hk W δ := by
    cases h : o.fd δ with
    | ok x =>
      cases h2 : a.f δ with
      | ok ys =>
        rw [M.ok_bin, M.ok_bin]
        unfold idxF
        split
        · rename_i xs y
          split
          · rename_i q
            cases e : xs.findIdx? fun z => eqF z y with
            | none => trivial
            | some j =>
              obtain ⟨hj, h3, h4⟩ := List.findIdx?_eq_some_iff_getElem.mp e
              exact ev_idx (o.okD hk h) (a.okA hk h2) q.1 q.2 (List.getElem?_eq_getElem hj) h3 fun m z' hm hz => by
                obtain ⟨hl, ez⟩ := List.getElem?_eq_some_iff.mp hz
                have := h4 m hm
                rw [ez] at this
                simpa using this
          · trivial
        · trivial
      | _ => trivial
    | _ => trivial
end
end Far
/-! The classes' places, the law's own promise, what gen2.py's texts name. -/
namespace Far
open PySem L2 PySem.Spec PyProof.Rows
/-- the classes' places, one for each -/
structure Zs where
  f : Nat → Addr
  inj : ∀ i j, f i = f j ↔ i = j
@[simp] theorem Zs.eq_iff (Z : Zs) (i j : Nat) : (Z.f i = Z.f j) = (i = j) := propext (Z.inj i j)
theorem le_sum : ∀ {l : List Nat} {a : Nat}, a ∈ l → a ≤ l.sum
  | x :: r, a, h => by
    rw [List.sum_cons]
    rcases List.mem_cons.mp h with rfl | h
    · omega
    · have := le_sum h; omega
/-- .. those of l first -/
def Zs.of (l : List Addr) (h : l.Nodup) : Zs where
  f i := l.getD i (l.sum + 1 + i)
  inj i j := by
    have mem : ∀ i, i < l.length → l.getD i (l.sum + 1 + i) = l[i]! ∧ l.getD i (l.sum + 1 + i) ∈ l := fun i hi => by
      rw [List.getD_eq_getElem?_getD, List.getElem?_eq_getElem hi]
      exact ⟨by simp [hi], List.getElem_mem hi⟩
    have out : ∀ i, l.length ≤ i → l.getD i (l.sum + 1 + i) = l.sum + 1 + i := fun i hi => by
      rw [List.getD_eq_getElem?_getD, List.getElem?_eq_none hi]; rfl
    constructor
    · intro e
      rcases Nat.lt_or_ge i l.length with hi | hi
      · rcases Nat.lt_or_ge j l.length with hj | hj
        · rw [List.getD_eq_getElem?_getD, List.getD_eq_getElem?_getD, List.getElem?_eq_getElem hi, List.getElem?_eq_getElem hj] at e
          exact (List.getElem_inj h).mp e
        · have h1 := le_sum (mem i hi).2
          rw [e, out j hj] at h1; omega
      · rcases Nat.lt_or_ge j l.length with hj | hj
        · have h1 := le_sum (mem j hj).2
          rw [← e, out i hi] at h1; omega
        · rw [out i hi, out j hj] at e
          exact Nat.add_left_cancel e
    · rintro rfl; rfl
theorem fm_nil {α : Type} {P : α → Prop} : ∀ x ∈ ([] : List α), P x := fun _ h => nomatch h
theorem fm_cons {α : Type} {P : α → Prop} {a : α} {l : List α} (h : P a) (r : ∀ x ∈ l, P x) : ∀ x ∈ a :: l, P x := fun x hx => by
  rcases List.mem_cons.mp hx with rfl | z
  · exact h
  · exact r x z
theorem fnok_no {P : Program} {w : World} {K : PySem.W.Frag} {mg : Str → Option Value} {base : Heap} {CX : CXT} {k : Nat} {f : Addr} {fd : FuncData} {ps : List Str} : FnOk P w K mg base CX k f fd ps (spD K (RF fun _ => .no)) :=
  fnok_none.imp fun vs H Q E ⟨G, xs, out, h1, h2, h3, h4⟩ => by rcases h3 with ⟨_, z, _⟩ | ⟨_, _, z, _⟩ <;> cases z
theorem spD_imp {K : PySem.W.Frag} {R R' : List D → Out → Prop} (h : ∀ xs out, R xs out → R' xs out) : ∀ vs H Q E, spD K R vs H Q E → spD K R' vs H Q E := fun vs H Q E ⟨G, xs, out, h1, h2, h3, h4⟩ => ⟨G, xs, out, h1, h2, h xs out h3, h4⟩
abbrev scrD (ns : List Int) : D := .scr (ns.map .int)
def R_law (xs : List D) (out : Out) : Prop := ∃ ns : List Int, xs = [scrD ns] ∧ ns.length ≤ 63 ∧ out = .ret (.d (.bl true))
theorem law_rf {F : List D → M S} (h : ∀ ns : List Int, ns.length ≤ 63 → F [scrD ns] = .ok (.d (.bl true))) : ∀ xs out, R_law xs out → RF F xs out := by
  rintro _ _ ⟨ns, rfl, hl, rfl⟩
  exact .inl ⟨_, h ns hl, rfl⟩
theorem tab_none {K : PySem.W.Frag} {H G : Hp} (h : tabsK K = []) : TabOk K H G := fun P hP => by rw [h] at hP; cases hP
theorem law_asks {K : PySem.W.Frag} {H : Hp} {a : Addr} {ns : List Int} {Q : VK} {E : XK} (hl : ns.length ≤ 63) (hS : SqL K H a (ns.map V.int)) (ht : TabOk K H H) (q : ∀ H', Q (.bl true) H') : spD K R_law [.ref a] H Q E :=
  ⟨H, [scrD ns], _, ⟨.refl H, ht⟩, .cons (.scr hS (rp_ints (fun i => i) ns)) .nil, ⟨ns, rfl, hl, rfl⟩, fun v s G' H' e _ _ _ _ k => by
    cases e; obtain ⟨v', e, r⟩ := k; cases e; cases r; exact fun _ => q H', fun _ _ _ _ _ _ e => nomatch e⟩
section
variable {Hy : PySem.W.Frag → Prop} {K : PySem.W.Frag} {δ : List S}
theorem sd_par {W : WX} {N B Ct : List S → Prop} {Rt : S → List S → Prop} {Xc : List S → Addr → List (Str × D) → Prop} {i j : Nat} {ta : TA} {x y : D} (h : EA K ta δ [x, y]) (hi : i < δ.length) (hj : j < δ.length) (n : N ((δ.set i (.d x)).set j (.d y))) : SD K W (tPar i j ta) δ N Rt B Ct Xc := fun He Ge H σ Dn ok nx rt bk ct xx =>
  h He Ge H [] [] σ rfl ok _ fun vs H' G' ok' r => by
    cases r with
    | cons r1 r2 =>
      cases r2 with
      | cons r2 r3 =>
        cases r3
        refine ⟨_, _, rfl, nx _ _ _ ⟨G', ?_⟩ n⟩
        exact OKG.store (OKG.pushD (OKG.store (OKG.pushD ok' r1) hi) r2) (by rw [List.length_set]; exact hj)
def SS.par (i j : Nat) (a : SA Hy) : SS Hy where
  t K W := tPar i j (a.t K W)
  f δ := Fl.exn (a.f δ) fun xs => match xs with | [x, y] => if i < δ.length ∧ j < δ.length then .nx ((δ.set i (.d x)).set j (.d y)) else .no | _ => .no
  ok K hk W δ := by
    cases h : a.f δ with
    | ok xs =>
      rw [Fl.ok_exn]
      split
      · split
        · rename_i q; exact sd_par (a.okA hk h) q.1 q.2 rfl
        · trivial
      · trivial
    | _ => trivial
end
def aAdd : OA := ⟨ipI fun i j => i + j, fun x y => match x, y with | .int i, .int j => some (.int (i + j)) | _, _ => none, fun K x y z h => by
  split at h
  · cases h; exact fun H G v u rv ru Q q => by cases rv; cases ru; exact ⟨_, _, rfl, rfl, q _ .int⟩
  · cases h⟩
def aSub : OA := ⟨ipI fun i j => i - j, fun x y => match x, y with | .int i, .int j => some (.int (i - j)) | _, _ => none, fun K x y z h => by
  split at h
  · cases h; exact fun H G v u rv ru Q q => by cases rv; cases ru; exact ⟨_, _, rfl, rfl, q _ .int⟩
  · cases h⟩
end Far
/-! What simp knows of runs. -/
namespace Far
open PySem L2
theorem toNat_inj : ∀ {a b : List Char}, a.map Char.toNat = b.map Char.toNat → a = b
  | [], [], _ => rfl
  | [], _ :: _, h => by cases h
  | _ :: _, [], h => by cases h
  | x :: a, y :: b, h => by
    obtain ⟨h1, h2⟩ := List.cons.inj h
    have e : x = y := Char.toNat_inj.mp h1
    rw [e, toNat_inj h2]
theorem ofString_inj {a b : String} : Str.ofString a = Str.ofString b ↔ a = b := by
  constructor
  · intro h
    rw [Str.ofString_eq_toList, Str.ofString_eq_toList] at h
    have h1 := congrArg (fun s : Str => s.cps.toList) h
    exact String.toList_inj.mp (toNat_inj h1)
  · rintro rfl; rfl
@[simp] theorem ofString_eq' (a b : String) : (Str.ofString a = Str.ofString b) = (a = b) := propext ofString_inj
@[simp] theorem ofString_beq (a b : String) : (Str.ofString a == Str.ofString b) = decide (a = b) := by
  rw [Bool.eq_iff_iff]; simp [ofString_inj]
section
variable {Hy : PySem.W.Frag → Prop} {α β : Type} {δ : List S}
@[simp] theorem sM1 {a : α} {f : α → M β} : (M.ok a).bind f = f a := (rfl)
@[simp] theorem sM2 {c : Addr} {fs : List (Str × D)} {f : α → M β} : (M.ex c fs).bind f = .ex c fs := (rfl)
@[simp] theorem sM3 {f : α → M β} : M.no.bind f = .no := (rfl)
@[simp] theorem sM4 {a : α} {f : α → M β} : (M.ok a).bin f = f a := (rfl)
@[simp] theorem sM5 {c : Addr} {fs : List (Str × D)} {f : α → M β} : (M.ex c fs).bin f = .no := (rfl)
@[simp] theorem sM6 {f : α → M β} : M.no.bin f = .no := (rfl)
@[simp] theorem sM7 {a : α} : M.of (some a) = .ok a := (rfl)
@[simp] theorem sM8 : M.of (none : Option α) = .no := (rfl)
@[simp] theorem sF1 {f : List S → Fl} : (Fl.nx δ).next f = f δ := (rfl)
@[simp] theorem sF2 {s : S} {f : List S → Fl} : (Fl.rt s).next f = .rt s := (rfl)
@[simp] theorem sF3 {f : List S → Fl} : (Fl.bk δ).next f = .bk δ := (rfl)
@[simp] theorem sF4 {f : List S → Fl} : (Fl.ct δ).next f = .ct δ := (rfl)
@[simp] theorem sF5 {c : Addr} {fs : List (Str × D)} {f : List S → Fl} : (Fl.ex δ c fs).next f = .ex δ c fs := (rfl)
@[simp] theorem sF6 {f : List S → Fl} : Fl.no.next f = .no := (rfl)
@[simp] theorem sF7 {a : α} {f : α → Fl} : Fl.exp (.ok a) δ f = f a := (rfl)
@[simp] theorem sF8 {c : Addr} {fs : List (Str × D)} {f : α → Fl} : Fl.exp (.ex c fs) δ f = .ex δ c fs := (rfl)
@[simp] theorem sF9 {a : α} {f : α → Fl} : Fl.exn (.ok a) f = f a := (rfl)
@[simp] theorem sD1 {x : D} : toD (.d x) = .ok x := (rfl)
@[simp] theorem sD2 {xs : List D} : toD (.own xs) = .ok (.lst xs) := (rfl)
@[simp] theorem sG1 {x : D} {l : List S} : gt (.d x :: l) 0 = .ok (.d x) := (rfl)
@[simp] theorem sG2 {s : S} {l : List S} {i : Nat} : gt (s :: l) (i + 1) = gt l i := gt_s
@[simp] theorem sO1 {xs : List D} {l : List S} : ow (.own xs :: l) 0 = .ok xs := (rfl)
@[simp] theorem sO2 {s : S} {l : List S} {i : Nat} : ow (s :: l) (i + 1) = ow l i := ow_s
@[simp] theorem sB1 {l : List S} {a : Option Addr} {C : Addr} {fs : List (Str × D)} : obj (.ob a C fs :: l) 0 = .ok (a, C, fs) := (rfl)
@[simp] theorem sB2 {s : S} {l : List S} {i : Nat} : obj (s :: l) (i + 1) = obj l i := obj_s
@[simp] theorem sW1 : wpF [] δ = δ := (rfl)
@[simp] theorem sW2 {i : Nat} {r : List Nat} : wpF (i :: r) δ = wpF r (δ.set i .un) := (rfl)
@[simp] theorem sE1 {b : Bool} : asB (.d (.bl b)) = .ok b := (rfl)
@[simp] theorem sE2 {b : Bool} : asBl (some (.d (.bl b))) = .ok b := (rfl)
@[simp] theorem sE3 {i : Int} : asI (.int i) = .ok (some i) := (rfl)
@[simp] theorem sfd (e : SE Hy) : e.fd δ = (e.f δ).bind toD := (rfl)
def orF (a b : M S) : M S := match a with | .no => b | r => r
@[simp] theorem orF_ok {s : S} {b : M S} : orF (.ok s) b = .ok s := (rfl)
@[simp] theorem orF_ex {c : Addr} {fs : List (Str × D)} {b : M S} : orF (.ex c fs) b = .ex c fs := (rfl)
@[simp] theorem orF_no {b : M S} : orF .no b = b := (rfl)
def seqF (x : D) : M (List D) := match x with | .lst xs => .ok xs | .tup xs => .ok xs | _ => .no
@[simp] theorem seqF_l {xs : List D} : seqF (.lst xs) = .ok xs := (rfl)
@[simp] theorem seqF_t {xs : List D} : seqF (.tup xs) = .ok xs := (rfl)
def tupF (x : D) : M (List D) := match x with | .tup xs => .ok xs | _ => .no
@[simp] theorem tupF_t {xs : List D} : tupF (.tup xs) = .ok xs := (rfl)
def rng1F (xs : List D) : M (List D) := match xs with | [.int n] => .ok (rg 0 n.toNat) | _ => .no
@[simp] theorem rng1F_i {n : Int} : rng1F [.int n] = .ok (rg 0 n.toNat) := (rfl)
def rng2F (xs : List D) : M (List D) := match xs with | [.int m, .int n] => .ok (rg m (n - m).toNat) | _ => .no
@[simp] theorem rng2F_i {m n : Int} : rng2F [.int m, .int n] = .ok (rg m (n - m).toNat) := (rfl)
def sixF (δ : List S) (i : Nat) (xs : List D) (x k : D) : Fl := match k with | .int n => (match ixN xs.length n with | some m => .nx (δ.set i (.own (xs.set m x))) | none => .no) | _ => .no
def frzF (m : M (List D)) (δ : List S) (i : Nat) (f : List S → Fl) : Fl := match m with | .ok xs => f (δ.set i (.d (.lst xs))) | _ => f δ
@[simp] theorem frzF_ok {xs : List D} {i : Nat} {f : List S → Fl} : frzF (.ok xs) δ i f = f (δ.set i (.d (.lst xs))) := (rfl)
def parF (δ : List S) (i j : Nat) (xs : List D) : Fl := match xs with | [x, y] => if i < δ.length ∧ j < δ.length then .nx ((δ.set i (.d x)).set j (.d y)) else .no | _ => .no
@[simp] theorem parF_2 {i j : Nat} {x y : D} : parF δ i j [x, y] = if i < δ.length ∧ j < δ.length then .nx ((δ.set i (.d x)).set j (.d y)) else .no := (rfl)
def tryF (Cs : List Addr) (i j : Nat) (r : Fl) : Fl := match r with
    | .ex δ' c fs => if i < δ'.length ∧ j < δ'.length ∧ c ∈ Cs then .nx (((δ'.set i .un).set j (.d (.exc c fs))).set i .un) else .no
    | r => r
@[simp] theorem tryF_ex {Cs : List Addr} {i j : Nat} {c : Addr} {fs : List (Str × D)} : tryF Cs i j (.ex δ c fs) = if i < δ.length ∧ j < δ.length ∧ c ∈ Cs then .nx (((δ.set i .un).set j (.d (.exc c fs))).set i .un) else .no := (rfl)
@[simp] theorem tryF_nx {Cs : List Addr} {i j : Nat} : tryF Cs i j (.nx δ) = .nx δ := (rfl)
@[simp] theorem tryF_rt {Cs : List Addr} {i j : Nat} {s : S} : tryF Cs i j (.rt s) = .rt s := (rfl)
def fin (r : Fl) : M S := match r with | .nx _ => .ok (.d .non) | .rt s => .ok s | .ex _ c fs => .ex c fs | _ => .no
@[simp] theorem fin_nx : fin (.nx δ) = .ok (.d .non) := (rfl)
@[simp] theorem fin_rt {s : S} : fin (.rt s) = .ok s := (rfl)
@[simp] theorem fin_ex {c : Addr} {fs : List (Str × D)} : fin (.ex δ c fs) = .ex c fs := (rfl)
theorem runF_fin {b : SS Hy} {n np : Nat} {xs : List D} (h : xs.length = np) : runF b n np xs = fin (b.f (slots n xs)) := by unfold runF; rw [if_pos h]; rfl
def finI (x C : Addr) (r : Fl) : M (List (Str × D)) := match r with
    | .nx (.ob (some x') C' fs :: _) => if x' = x ∧ C' = C then .ok fs else .no
    | .ex _ c fs => .ex c fs | _ => .no
@[simp] theorem finI_nx {x C : Addr} {fs : List (Str × D)} : finI x C (.nx (.ob (some x) C fs :: δ)) = .ok fs := by unfold finI; simp
@[simp] theorem finI_ex {x C c : Addr} {fs : List (Str × D)} : finI x C (.ex δ c fs) = .ex c fs := (rfl)
theorem runI_fin {b : SS Hy} {n np : Nat} {C x : Addr} {xs : List D} (h : xs.length + 1 = np) : runI b n np C x xs = finI x C (b.f (slotsI n x C xs)) := by unfold runI; rw [if_pos h]; rfl
@[simp] theorem SE.var_f (i : Nat) : (SE.var i : SE Hy).f δ = gt δ i := (rfl)
@[simp] theorem SE.int_f (i : Int) : (SE.int i : SE Hy).f δ = .ok (.d (.int i)) := (rfl)
@[simp] theorem SE.bl_f (i : Bool) : (SE.bl i : SE Hy).f δ = .ok (.d (.bl i)) := (rfl)
@[simp] theorem SE.str_f (i : Str) : (SE.str i : SE Hy).f δ = .ok (.d (.str i)) := (rfl)
@[simp] theorem SE.non_f  : (SE.non : SE Hy).f δ = .ok (.d .non) := (rfl)
@[simp] theorem SE.ty_f (n : String) : (SE.ty n : SE Hy).f δ = .ok (.d (.ty n)) := (rfl)
@[simp] theorem SE.cls_f (a : Addr) : (SE.cls a : SE Hy).f δ = .ok (.d (.cls a)) := (rfl)
@[simp] theorem SA.nil_f  : (SA.nil : SA Hy).f δ = .ok [] := (rfl)
@[simp] theorem SA.cons_f (e : SE Hy) (r : SA Hy) : (SA.cons e r).f δ = (e.fd δ).bind fun x => (r.f δ).bind fun xs => .ok (x :: xs) := (rfl)
@[simp] theorem SE.op_f (o : O2) (a b : SE Hy) : (SE.op o a b).f δ = (a.fd δ).bind fun x => (b.fd δ).bind fun y => .of (o.f x y) := (rfl)
@[simp] theorem SE.un_f (o : O1) (a : SE Hy) : (SE.un o a).f δ = (a.fd δ).bind fun x => .of (o.f x) := (rfl)
@[simp] theorem SE.cb_f (o : OB Hy) (a : SA Hy) : (SE.cb o a).f δ = (a.f δ).bind fun xs => .of (o.f xs) := (rfl)
@[simp] theorem SE.tup_f (a : SA Hy) : (SE.tup a).f δ = (a.f δ).bind fun xs => if xs.length ≤ sizeLine then .ok (.d (.tup xs)) else .no := (rfl)
@[simp] theorem SE.lst_f (a : SA Hy) : (SE.lst a).f δ = (a.f δ).bind fun xs => if xs.length ≤ sizeLine then .ok (.own xs) else .no := (rfl)
@[simp] theorem SE.call_f (F : List D → M S) (a : SA Hy) : (SE.call F a).f δ = (a.f δ).bind fun xs => (F xs).bin .ok := (rfl)
@[simp] theorem SE.callX_f (F : List D → M S) (a : SA Hy) : (SE.callX F a).f δ = (a.f δ).bind F := (rfl)
@[simp] theorem SE.make_f (C : Addr) (F : Addr → List D → M (List (Str × D))) (a : SA Hy) : (SE.make C F a).f δ = (a.f δ).bind fun xs => (mkR F xs).bin fun fs => .ok (.d (.ins C fs)) := (rfl)
@[simp] theorem SE.makeX_f (C : Addr) (F : Addr → List D → M (List (Str × D))) (a : SA Hy) : (SE.makeX C F a).f δ = (a.f δ).bind fun xs => (mkR F xs).bind fun fs => .ok (.d (.ins C fs)) := (rfl)
@[simp] theorem SE.new0_f (C : Addr) : (SE.new0 C : SE Hy).f δ = .ok (.d (.ins C [])) := (rfl)
@[simp] theorem SE.meth_f (C : Addr) (m : Str) (F : List D → M S) (o : SE Hy) (a : SA Hy) : (SE.meth C m F o a).f δ = (o.fd δ).bind fun x => if ofC C m x = true then (a.f δ).bind fun xs => (F (x :: xs)).bin .ok else .no := (rfl)
@[simp] theorem SE.methX_f (C : Addr) (m : Str) (F : List D → M S) (o : SE Hy) (a : SA Hy) : (SE.methX C m F o a).f δ = (o.fd δ).bind fun x => if ofC C m x = true then (a.f δ).bind fun xs => F (x :: xs) else .no := (rfl)
@[simp] theorem SE.either_f (a b : SE Hy) : (SE.either a b).f δ = orF (a.f δ) (b.f δ) := (rfl)
@[simp] theorem SE.fld_f (f : Str) (Cs : List Addr) (h : FldOk Hy f Cs) (o : SE Hy) : (SE.fld f Cs h o).f δ = (o.fd δ).bind fun x => (M.of (fldF Cs f x)).bin fun y => .ok (.d y) := (rfl)
@[simp] theorem SE.orE_f (a b : SE Hy) : (SE.orE a b).f δ = (a.fd δ).bin fun x => (M.of (tru x)).bin fun k => if k = true then .ok (.d x) else (b.f δ).bin .ok := (rfl)
@[simp] theorem SE.andE_f (a b : SE Hy) : (SE.andE a b).f δ = (a.fd δ).bin fun x => (M.of (tru x)).bin fun k => if k = true then (b.f δ).bin .ok else .ok (.d x) := (rfl)
@[simp] theorem SE.notE_f (a : SE Hy) : (SE.notE a).f δ = (a.fd δ).bin fun x => (M.of (tru x)).bin fun k => .ok (.d (.bl (!k))) := (rfl)
@[simp] theorem SE.ifE_f (c : ST Hy) (a b : SE Hy) : (SE.ifE c a b).f δ = (c.f δ).bin fun k => if k = true then a.f δ else b.f δ := (rfl)
@[simp] theorem ST.of_f (e : SE Hy) : (ST.of e).f δ = (e.f δ).bin asB := (rfl)
@[simp] theorem ST.tru_f (e : SE Hy) : (ST.tru e).f δ = (e.fd δ).bin fun x => .of (Far.tru x) := (rfl)
@[simp] theorem ST.not_f (c : ST Hy) : (ST.not c).f δ = (c.f δ).bin fun b => .ok (!b) := (rfl)
@[simp] theorem ST.and_f (c e : ST Hy) : (ST.and c e).f δ = (c.f δ).bin fun b => if b = true then (e.f δ).bin .ok else .ok false := (rfl)
@[simp] theorem ST.or_f (c e : ST Hy) : (ST.or c e).f δ = (c.f δ).bin fun b => if b = true then .ok true else (e.f δ).bin .ok := (rfl)
@[simp] theorem ST.yes_f  : (ST.yes : ST Hy).f δ = .ok true := (rfl)
@[simp] theorem SE.chain_f (o p : O2) (a b c : SE Hy) : (SE.chain o p a b c).f δ = (a.fd δ).bin fun x => (b.fd δ).bin fun y => (asBl (o.f x y)).bin fun k => (c.fd δ).bin fun z => (asBl (p.f y z)).bin fun l => .ok (.d (.bl (k && l))) := (rfl)
@[simp] theorem SO.none_f  : (SO.none : SO Hy).f δ = .ok .none := (rfl)
@[simp] theorem SO.some_f (e : SE Hy) : (SO.some e).f δ = (e.fd δ).bin asI := (rfl)
@[simp] theorem SE.sl_f (a : SE Hy) (lo hi : SO Hy) : (SE.sl a lo hi).f δ = (a.fd δ).bin fun x => (lo.f δ).bin fun l => (hi.f δ).bin fun h => cutF x l h := (rfl)
@[simp] theorem SI.seq_f (e : SE Hy) : (SI.seq e).f δ = (e.fd δ).bin seqF := (rfl)
@[simp] theorem SI.tup_f (e : SE Hy) : (SI.tup e).f δ = (e.fd δ).bin tupF := (rfl)
@[simp] theorem SI.rng1_f (a : SA Hy) : (SI.rng1 a).f δ = (a.f δ).bin rng1F := (rfl)
@[simp] theorem SI.rng2_f (a : SA Hy) : (SI.rng2 a).f δ = (a.f δ).bin rng2F := (rfl)
@[simp] theorem SG.name_f (i : Nat) (x : D) : (SG.name i : SG Hy).f δ x = if i < δ.length then some (δ.set i (.d x)) else none := (rfl)
@[simp] theorem SGs.nil_f  : (SGs.nil : SGs Hy).f δ [] = some δ := (rfl)
@[simp] theorem SGs.cons_f (i : Nat) (r : SGs Hy) (x : D) (xs : List D) : (SGs.cons i r).f δ (x :: xs) = if i < δ.length then r.f (δ.set i (.d x)) xs else none := (rfl)
@[simp] theorem SG.seqT_f (n : Nat) (r : SGs Hy) (xs : List D) : (SG.seq n r).f δ (.tup xs) = if r.n = n then r.f δ xs else none := (rfl)
@[simp] theorem SG.seqL_f (n : Nat) (r : SGs Hy) (xs : List D) : (SG.seq n r).f δ (.lst xs) = if r.n = n then r.f δ xs else none := (rfl)
@[simp] theorem SG.seqU_f (n : Nat) (r : SGs Hy) (xs : List D) : (SG.seq n r).f δ (.utp xs) = if r.n = n then r.f δ xs else none := (rfl)
@[simp] theorem SE.cntT_f (o : SE Hy) (a : SA Hy) : (SE.cntT o a).f δ = (o.fd δ).bin fun x => (a.f δ).bin fun ys => .of (cntTF x ys) := (rfl)
@[simp] theorem SE.dnew_f : (SE.dnew : SE Hy).f δ = .ok (.d (.dK [])) := (rfl)
@[simp] theorem SGs.nil_n : (SGs.nil : SGs Hy).n = 0 := (rfl)
@[simp] theorem SGs.cons_n (i : Nat) (r : SGs Hy) : (SGs.cons i r).n = r.n + 1 := (rfl)
@[simp] theorem SGs.nil_ix : (SGs.nil : SGs Hy).ix = [] := (rfl)
@[simp] theorem SGs.cons_ix (i : Nat) (r : SGs Hy) : (SGs.cons i r).ix = i :: r.ix := (rfl)
@[simp] theorem SG.name_ix (i : Nat) : (SG.name i : SG Hy).ix = [i] := (rfl)
@[simp] theorem SG.seq_ix (n : Nat) (r : SGs Hy) : (SG.seq n r).ix = r.ix := (rfl)
@[simp] theorem SE.lc_f (i : SI Hy) (g : SG Hy) (c : ST Hy) (e : SE Hy) (vs : List Nat) : (SE.lc i g c e vs).f δ = (i.f δ).bin fun ys => if g.ix.all (fun i => vs.contains i) = true ∧ ys.length ≤ sizeLine then (lcF (lcS g c e (hide δ vs)) ys).bin fun xs => .ok (.own xs) else .no := (rfl)
@[simp] theorem SS.skip_f  : (SS.skip : SS Hy).f δ = .nx δ := (rfl)
@[simp] theorem SS.brk_f  : (SS.brk : SS Hy).f δ = .bk δ := (rfl)
@[simp] theorem SS.cnt_f  : (SS.cnt : SS Hy).f δ = .ct δ := (rfl)
@[simp] theorem SS.retN_f  : (SS.retN : SS Hy).f δ = .rt (.d .non) := (rfl)
@[simp] theorem SS.seq_f (a b : SS Hy) : (SS.seq a b).f δ = (a.f δ).next b.f := (rfl)
@[simp] theorem SS.ret_f (e : SE Hy) : (SS.ret e).f δ = Fl.exp (e.f δ) δ retS := (rfl)
@[simp] theorem retS_d {x : D} : retS (.d x) = .rt (.d x) := (rfl)
@[simp] theorem retS_own {x : List D} : retS (.own x) = .rt (.own x) := (rfl)
@[simp] theorem retS_okd {x : List (Key × D)} : retS (.okd x) = .rt (.okd x) := (rfl)
@[simp] theorem retS_ob {q : Option Addr} {C : Addr} {x : List (Str × D)} : retS (.ob q C x) = .rt (.ob q C x) := (rfl)
@[simp] theorem retS_un : retS .un = .rt .un := (rfl)
@[simp] theorem SS.drop_f (e : SE Hy) : (SS.drop e).f δ = Fl.exp (e.f δ) δ fun _ => .nx δ := (rfl)
@[simp] theorem SS.set_f (i : Nat) (e : SE Hy) : (SS.set i e).f δ = Fl.exp (e.f δ) δ fun s => if i < δ.length then .nx (δ.set i s) else .no := (rfl)
@[simp] theorem SS.setD_f (i : Nat) (e : SE Hy) : (SS.setD i e).f δ = Fl.exp (e.fd δ) δ fun x => if i < δ.length then .nx (δ.set i (.d x)) else .no := (rfl)
@[simp] theorem SS.asg_f (e : SE Hy) (g : SG Hy) : (SS.asg e g).f δ = Fl.exp (e.fd δ) δ fun x => Fl.exn (.of (g.f δ x)) .nx := (rfl)
@[simp] theorem SS.ite_f (c : ST Hy) (a b : SS Hy) : (SS.ite c a b).f δ = Fl.exn (c.f δ) fun k => if k = true then a.f δ else b.f δ := (rfl)
@[simp] theorem SS.raise_f (C : Addr) : (SS.raise C : SS Hy).f δ = .ex δ C [] := (rfl)
@[simp] theorem SS.never_f  : (SS.never : SS Hy).f δ = .no := (rfl)
@[simp] theorem SS.app_f (i : Nat) (e : SE Hy) : (SS.app i e).f δ = Fl.exn (ow δ i) fun xs => Fl.exn (e.fd δ) fun x => if xs.length < sizeLine then .nx (δ.set i (.own (xs ++ [x]))) else .no := (rfl)
@[simp] theorem SS.setIx_f (i : Nat) (j e : SE Hy) : (SS.setIx i j e).f δ = Fl.exn (ow δ i) fun xs => Fl.exn (e.fd δ) fun x => Fl.exn (j.fd δ) fun k => sixF δ i xs x k := (rfl)
@[simp] theorem SS.frz_f (i : Nat) (a : SS Hy) : (SS.frz i a).f δ = frzF (ow δ i) δ i a.f := (rfl)
@[simp] theorem SS.wipe_f (vs : List Nat) (a : SS Hy) : (SS.wipe vs a).f δ = a.f (wpF vs δ) := (rfl)
@[simp] theorem SS.forS_f (i : SI Hy) (g : SG Hy) (vs : List Nat) (b : SS Hy) : (SS.forS i g vs b).f δ = Fl.exn (i.f δ) fun ys => forF g.f b.f vs ys (wpF vs δ) := (rfl)
@[simp] theorem SS.whileS_f (c : ST Hy) (vs : List Nat) (b : SS Hy) : (SS.whileS c vs b).f δ = whF c.f b.f vs (wpF vs δ) := (rfl)
@[simp] theorem SS.aug_f (i : Nat) (o : OA) (e : SE Hy) : (SS.aug i o e).f δ = Fl.exn (gt δ i) fun s => Fl.exn (toD s) fun x => Fl.exn (e.fd δ) fun y => Fl.exn (.of (o.f x y)) fun z => .nx (δ.set i (.d z)) := (rfl)
@[simp] theorem SS.par_f (i j : Nat) (a : SA Hy) : (SS.par i j a).f δ = Fl.exn (a.f δ) (parF δ i j) := (rfl)
@[simp] theorem SS.tryK_f (cv : Value) (Cs : List Addr) (hc : ExmOk Hy cv Cs) (i j : Nat) (b : SS Hy) : (SS.tryK cv Cs hc i j b).f δ = tryF Cs i j (b.f δ) := (rfl)
@[simp] theorem SS.setF_f (i : Nat) (f : Str) (Cs : List Addr) (hf : FldOk Hy f Cs) (e : SE Hy) : (SS.setF i f Cs hf e).f δ = Fl.exn (obj δ i) fun p => Fl.exn (e.fd δ) fun x => if p.2.1 ∈ Cs ∧ p.2.2.length < 1000 then .nx (δ.set i (.ob p.1 p.2.1 (putD f x p.2.2))) else .no := (rfl)
@[simp] theorem SE.mxD_f (f : Int → Int → Int) (a k : SA Hy) : (SE.mxD f a k).f δ = (a.f δ).bin fun xs => (M.of (ints1 xs)).bin fun ns => (k.f δ).bin fun ds => (M.of (one ds)).bin fun d => .ok (.d (Far.mxD f ns d)) := (rfl)
@[simp] theorem SE.cnt_f (o : SE Hy) (a : SA Hy) : (SE.cnt o a).f δ = (o.fd δ).bin fun x => (a.f δ).bin fun ys => .of (cntF x ys) := (rfl)
@[simp] theorem SE.idx_f (o : SE Hy) (a : SA Hy) : (SE.idx o a).f δ = (o.fd δ).bin fun x => (a.f δ).bin fun ys => .of (idxF x ys) := (rfl)
@[simp] theorem fldF_1 {Cs : List Addr} {f : Str} {C : Addr} {fs : List (Str × D)} : fldF Cs f (.ins C fs) = if C ∈ Cs then fs.lookup f else none := (rfl)
@[simp] theorem ofC_1 {C C' : Addr} {m : Str} {fs : List (Str × D)} : ofC C m (.ins C' fs) = (decide (C' = C) && (fs.lookup m).isNone) := (rfl)
end
end Far
/-! What simp knows of operators. -/
namespace Far
open PySem L2
section
variable {Hy : PySem.W.Frag → Prop} {i j : Int} {x y : D} {xs ys : List D} {a b : Bool}
@[simp] theorem oAdd_f : oAdd.f = addF := (rfl)
@[simp] theorem oSub_f : oSub.f = subF := (rfl)
@[simp] theorem oMul_f : oMul.f = mulF := (rfl)
@[simp] theorem oDiv_f : oDiv.f = divF := (rfl)
@[simp] theorem oMod_f : oMod.f = modF := (rfl)
@[simp] theorem oPow_f : oPow.f = powF := (rfl)
@[simp] theorem oLt_f : oLt.f = ltF := (rfl)
@[simp] theorem oLe_f : oLe.f = leF := (rfl)
@[simp] theorem oGt_f : oGt.f = gtF := (rfl)
@[simp] theorem oGe_f : oGe.f = geF := (rfl)
@[simp] theorem oEq_f : oEq.f = eqF2 := (rfl)
@[simp] theorem oNe_f : oNe.f = neF2 := (rfl)
@[simp] theorem oIsN_f : oIsN.f = isNF := (rfl)
@[simp] theorem oNotN_f : oNotN.f = notNF := (rfl)
@[simp] theorem oIsB_f : oIsB.f = isBF := (rfl)
@[simp] theorem oNotB_f : oNotB.f = notBF := (rfl)
@[simp] theorem oIx_f : oIx.f = ixF := (rfl)
@[simp] theorem oIn_f : oIn.f x y = (inS x y).map fun b => .d (.bl b) := (rfl)
@[simp] theorem oNotIn_f : oNotIn.f x y = (inS x y).map fun b => .d (.bl !b) := (rfl)
@[simp] theorem oNeg_f : oNeg.f = negF := (rfl)
@[simp] theorem bLen_f : (bLen : OB Hy).f = lenF := (rfl)
@[simp] theorem bMax2_f : (bMax2 : OB Hy).f = max2F := (rfl)
@[simp] theorem bMin2_f : (bMin2 : OB Hy).f = min2F := (rfl)
@[simp] theorem bMax1_f : (bMax1 : OB Hy).f = max1F := (rfl)
@[simp] theorem bMin1_f : (bMin1 : OB Hy).f = min1F := (rfl)
@[simp] theorem bAll_f : (bAll : OB Hy).f = allF := (rfl)
@[simp] theorem bSum_f : (bSum : OB Hy).f = sumF := (rfl)
@[simp] theorem bTuple_f : (bTuple : OB Hy).f = tupleF := (rfl)
@[simp] theorem bList_f : (bList : OB Hy).f = listF := (rfl)
@[simp] theorem bInt_f : (bInt : OB Hy).f = intF := (rfl)
@[simp] theorem bStr_f : (bStr : OB Hy).f = strF := (rfl)
@[simp] theorem bIsi_f {T : Tab} {h : T.Ok Hy} : (bIsi T h).f = isiF T := (rfl)
@[simp] theorem aAdd_f : aAdd.f (.int i) (.int j) = some (.int (i + j)) := (rfl)
@[simp] theorem aSub_f : aSub.f (.int i) (.int j) = some (.int (i - j)) := (rfl)
@[simp] theorem addF_int : addF (.int i) (.int j) = some (.d (.int (i + j))) := (rfl)
@[simp] theorem addF_lst (h : xs.length + ys.length ≤ 16777216) : addF (.lst xs) (.lst ys) = some (.own (xs ++ ys)) := if_pos (sz h)
@[simp] theorem addF_tup (h : xs.length + ys.length ≤ 16777216) : addF (.tup xs) (.tup ys) = some (.d (.tup (xs ++ ys))) := if_pos (sz h)
@[simp] theorem subF_int : subF (.int i) (.int j) = some (.d (.int (i - j))) := (rfl)
theorem mulF_int (h : CMul i j ∨ CMulW i j) : mulF (.int i) (.int j) = some (.d (.int (i * j))) := if_pos h
@[simp] theorem mulF_l (h1 : -18446744073709551616 < i) (h2 : i < 18446744073709551616) : mulF (.int i) (.int j) = some (.d (.int (i * j))) := mulF_int (.inl (.inl ⟨by omega, by omega⟩))
@[simp] theorem mulF_r (h1 : -18446744073709551616 < j) (h2 : j < 18446744073709551616) : mulF (.int i) (.int j) = some (.d (.int (i * j))) := mulF_int (.inl (.inr ⟨by omega, by omega⟩))
@[simp] theorem mulF_lst {k : Int} (h0 : 0 ≤ k) (h1 : k < 9223372036854775808) (h2 : xs.length * k.toNat ≤ 16777216) : mulF (.lst xs) (.int k) = some (.own (List.replicate k.toNat xs).flatten) := if_pos ⟨by omega, by omega, sz h2⟩
@[simp] theorem mulF_tup {k : Int} (h : xs ≠ []) (h0 : 1 ≤ k) (h1 : k ≤ 1000000) (h2 : xs.length * k.toNat ≤ 1000000) : mulF (.tup xs) (.int k) = some (.d (.tup (List.replicate k.toNat xs).flatten)) := if_pos ⟨h, h0, h2, h1⟩
theorem divF_int (h : CDivW i j) : divF (.int i) (.int j) = some (.d (.int (i / j))) := if_pos h
@[simp] theorem divF_small (h : 0 < j) (h2 : j < 1073741824) : divF (.int i) (.int j) = some (.d (.int (i / j))) := divF_int (cdiv_small h h2)
@[simp] theorem modF_int (h : 0 < j) : modF (.int i) (.int j) = some (.d (.int (i % j))) := if_pos h
@[simp] theorem powF_int (h : 0 ≤ j) (h1 : j ≤ 1000000) (h2 : i.natAbs < 18446744073709551616) : powF (.int i) (.int j) = some (.d (.int (i ^ j.toNat))) := if_pos ⟨h, h1, by omega⟩
@[simp] theorem ltF_int : ltF (.int i) (.int j) = some (.d (.bl (decide (i < j)))) := (rfl)
@[simp] theorem leF_int : leF (.int i) (.int j) = some (.d (.bl (decide (i ≤ j)))) := (rfl)
@[simp] theorem gtF_int : gtF (.int i) (.int j) = some (.d (.bl (decide (j < i)))) := (rfl)
@[simp] theorem geF_int : geF (.int i) (.int j) = some (.d (.bl (decide (j ≤ i)))) := (rfl)
@[simp] theorem eqF2_int : eqF2 (.int i) (.int j) = some (.d (.bl (decide (i = j)))) := (rfl)
@[simp] theorem eqF2_bl : eqF2 (.bl a) (.bl b) = some (.d (.bl (decide (a = b)))) := (rfl)
@[simp] theorem eqF2_str {a b : Str} : eqF2 (.str a) (.str b) = some (.d (.bl (decide (a = b)))) := (rfl)
@[simp] theorem eqF2_in : eqF2 (.int i) .non = some (.d (.bl false)) := (rfl)
@[simp] theorem eqF2_ni : eqF2 .non (.int i) = some (.d (.bl false)) := (rfl)
@[simp] theorem eqF2_nn : eqF2 .non .non = some (.d (.bl true)) := (rfl)
@[simp] theorem neF2_int : neF2 (.int i) (.int j) = some (.d (.bl (!decide (i = j)))) := (rfl)
@[simp] theorem neF2_bl : neF2 (.bl a) (.bl b) = some (.d (.bl (!decide (a = b)))) := (rfl)
@[simp] theorem neF2_str {a b : Str} : neF2 (.str a) (.str b) = some (.d (.bl (!decide (a = b)))) := (rfl)
@[simp] theorem neF2_in : neF2 (.int i) .non = some (.d (.bl true)) := (rfl)
@[simp] theorem neF2_ni : neF2 .non (.int i) = some (.d (.bl true)) := (rfl)
@[simp] theorem neF2_nn : neF2 .non .non = some (.d (.bl false)) := (rfl)
@[simp] theorem neF2_scr {ns : List Int} : neF2 (scrD ns) (.lst []) = some (.d (.bl (!ns.isEmpty))) := by
  have h : (ns.map D.int).all (fun x => match x with | .int _ => true | _ => false) = true := by
    rw [List.all_map, List.all_eq_true]; intro i _; rfl
  show (if (ns.map D.int).all (fun x => match x with | .int _ => true | _ => false) = true then some (ns.map D.int).isEmpty else none).map _ = _
  rw [if_pos h]
  cases ns <;> rfl
/-- of two things that can be compared -/
theorem eqF2_of (h : cmpD x y = true) (hx : ∀ zs, x ≠ .scr zs) : eqF2 x y = some (.d (.bl (eqD x y))) := by
  have e : eqB x y = some (eqD x y) := by
    unfold eqB
    split
    · simp [eqD, pd, PyData.eqv]; rw [Bool.eq_iff_iff]; simp
    · simp [eqD, pd, PyData.eqv]; rw [Bool.eq_iff_iff]; simp
    · simp [eqD, pd, PyData.eqv]; rename_i i j; cases i <;> cases j <;> rfl
    · simp [eqD, pd, PyData.eqv]
    · simp [eqD, pd, PyData.eqv]
    · simp [eqD, pd, PyData.eqv]
    · exact (hx _ rfl).elim
    · rw [if_pos h]
  unfold eqF2
  split
  · exact (hx _ rfl).elim
  · rw [e]; rfl
theorem neF2_of (h : cmpD x y = true) (hx : ∀ zs, x ≠ .scr zs) : neF2 x y = some (.d (.bl (!eqD x y))) := by
  have e : eqB x y = some (eqD x y) := by
    unfold eqB
    split
    · simp [eqD, pd, PyData.eqv]; rw [Bool.eq_iff_iff]; simp
    · simp [eqD, pd, PyData.eqv]; rw [Bool.eq_iff_iff]; simp
    · simp [eqD, pd, PyData.eqv]; rename_i i j; cases i <;> cases j <;> rfl
    · simp [eqD, pd, PyData.eqv]
    · simp [eqD, pd, PyData.eqv]
    · simp [eqD, pd, PyData.eqv]
    · exact (hx _ rfl).elim
    · rw [if_pos h]
  unfold neF2
  rw [e]; rfl
@[simp] theorem isNF_n : isNF x .non = some (.d (.bl (isNon x))) := (rfl)
@[simp] theorem notNF_n : notNF x .non = some (.d (.bl (!isNon x))) := (rfl)
@[simp] theorem isBF_b : isBF (.bl a) (.bl b) = some (.d (.bl (decide (a = b)))) := (rfl)
@[simp] theorem notBF_b : notBF (.bl a) (.bl b) = some (.d (.bl (!decide (a = b)))) := (rfl)
@[simp] theorem ixF_lst : ixF (.lst xs) (.int i) = (L2.atI xs i).map .d := (rfl)
@[simp] theorem ixF_tup : ixF (.tup xs) (.int i) = (L2.atI xs i).map .d := (rfl)
@[simp] theorem ixF_scr : ixF (.scr xs) (.int i) = (L2.atI xs i).map .d := (rfl)
@[simp] theorem negF_int : negF (.int i) = some (.d (.int (-i))) := (rfl)
@[simp] theorem lenF_lst : lenF [.lst xs] = some (.d (.int xs.length)) := (rfl)
@[simp] theorem lenF_tup : lenF [.tup xs] = some (.d (.int xs.length)) := (rfl)
@[simp] theorem lenF_scr : lenF [.scr xs] = some (.d (.int xs.length)) := (rfl)
@[simp] theorem max2F_int : max2F [.int i, .int j] = some (.d (.int (max i j))) := (rfl)
@[simp] theorem min2F_int : min2F [.int i, .int j] = some (.d (.int (min i j))) := (rfl)
@[simp] theorem tupleF_lst : tupleF [.lst xs] = some (.d (.tup xs)) := (rfl)
@[simp] theorem tupleF_tup : tupleF [.tup xs] = some (.d (.tup xs)) := (rfl)
@[simp] theorem listF_lst : listF [.lst xs] = some (.own xs) := (rfl)
@[simp] theorem listF_tup : listF [.tup xs] = some (.own xs) := (rfl)
@[simp] theorem intF_int : intF [.int i] = some (.d (.int i)) := (rfl)
@[simp] theorem intF_bl : intF [.bl a] = some (.d (.int (if a then 1 else 0))) := (rfl)
@[simp] theorem tru_bl : tru (.bl a) = some a := (rfl)
@[simp] theorem tru_non : tru .non = some false := (rfl)
@[simp] theorem tru_int : tru (.int i) = some (i != 0) := (rfl)
@[simp] theorem tru_lst : tru (.lst xs) = some (!xs.isEmpty) := (rfl)
@[simp] theorem tru_tup : tru (.tup xs) = some (!xs.isEmpty) := (rfl)
@[simp] theorem cutF_lst {lo hi : Option Int} : cutF (.lst xs) lo hi = .ok (.own (cutD xs lo hi)) := (rfl)
@[simp] theorem cutF_tup {lo hi : Option Int} : cutF (.tup xs) lo hi = .ok (.d (.tup (cutD xs lo hi))) := (rfl)
@[simp] theorem cutD_to {k : Int} (h : 0 ≤ k) : cutD xs none (some k) = xs.take k.toNat := cut_to h
@[simp] theorem cutD_from {k : Int} (h : 0 ≤ k) : cutD xs (some k) none = xs.drop k.toNat := cut_from h
@[simp] theorem mxD_nil {f : Int → Int → Int} {d : D} : mxD f [] d = d := (rfl)
@[simp] theorem mxD_cons {f : Int → Int → Int} {d : D} {n : Int} {r : List Int} : mxD f (n :: r) d = .int (r.foldl f n) := (rfl)
@[simp] theorem one_1 : one [x] = some x := (rfl)
theorem allF_map {α : Type} (f : α → Bool) (l : List α) : allF [.lst (l.map fun x => D.bl (f x))] = some (.d (.bl (l.all f))) := by
  show (bools (l.map fun x => D.bl (f x))).map _ = _
  rw [bools_map]; simp
@[simp] theorem sizeLine_s : sizeLine = 16777216 := sizeLine_eq
@[simp] theorem inR_s (h1 : -4611686018427387904 ≤ i) (h2 : i < 4611686018427387904) : inR i = true := by
  unfold inR; rw [Bool.and_eq_true, decide_eq_true_eq, decide_eq_true_eq]; exact ⟨by omega, by omega⟩
/-! isinstance of what is no class's -/
theorem isi_ty1 {T : Tab} {n : String} (hk : known x = true) (hn : n ∈ ["int", "bool", "tuple", "list", "str"]) : isiF T [x, .ty n] = some (.d (.bl (isTy x n))) := by
  have h := kit_any hk hn
  have ht : tyOf T x = some (.inr (tyN x)) := by
    unfold tyOf
    split
    · simp [known] at hk
    · simp [known] at hk
    · rw [if_pos hk]
  show (tyOf T x).bind (fun t => (oneI T t (.ty n)).map fun b => S.d (.bl b)) = _
  rw [ht]
  show (kitB (tyN x) n).map _ = _
  unfold isTy
  cases e : kitB (tyN x) n with
  | none => rw [e] at h; cases h
  | some b => rfl
theorem isi_ty2 {T : Tab} {m n : String} (hk : known x = true) (hm : m ∈ ["int", "bool", "tuple", "list", "str"]) (hn : n ∈ ["int", "bool", "tuple", "list", "str"]) : isiF T [x, .tup [.ty m, .ty n]] = some (.d (.bl (isTy x m || isTy x n))) := by
  have h := kit_any hk hn
  have h1 := kit_any hk hm
  have ht : tyOf T x = some (.inr (tyN x)) := by
    unfold tyOf
    split
    · simp [known] at hk
    · simp [known] at hk
    · rw [if_pos hk]
  show (tyOf T x).bind (fun t => (anyI T t [.ty m, .ty n]).map fun b => S.d (.bl b)) = _
  rw [ht]
  unfold isTy
  cases e1 : kitB (tyN x) m with
  | none => rw [e1] at h1; cases h1
  | some b1 =>
    cases e : kitB (tyN x) n with
    | none => rw [e] at h; cases h
    | some b =>
      simp only [Option.bind, anyI, oneI, e1, e]
      cases b1 <;> cases b <;> simp [isCls]
@[simp] theorem isi_int {T : Tab} (hk : known x = true) : isiF T [x, .ty "int"] = some (.d (.bl (isTy x "int"))) := isi_ty1 hk (by simp)
@[simp] theorem isi_bool {T : Tab} (hk : known x = true) : isiF T [x, .ty "bool"] = some (.d (.bl (isTy x "bool"))) := isi_ty1 hk (by simp)
@[simp] theorem isi_tuple {T : Tab} (hk : known x = true) : isiF T [x, .ty "tuple"] = some (.d (.bl (isTy x "tuple"))) := isi_ty1 hk (by simp)
@[simp] theorem isi_list {T : Tab} (hk : known x = true) : isiF T [x, .ty "list"] = some (.d (.bl (isTy x "list"))) := isi_ty1 hk (by simp)
@[simp] theorem isi_str {T : Tab} (hk : known x = true) : isiF T [x, .ty "str"] = some (.d (.bl (isTy x "str"))) := isi_ty1 hk (by simp)
@[simp] theorem isi_tl {T : Tab} (hk : known x = true) : isiF T [x, .tup [.ty "tuple", .ty "list"]] = some (.d (.bl (isTy x "tuple" || isTy x "list"))) := isi_ty2 hk (by simp) (by simp)
@[simp] theorem isi_lt {T : Tab} (hk : known x = true) : isiF T [x, .tup [.ty "list", .ty "tuple"]] = some (.d (.bl (isTy x "list" || isTy x "tuple"))) := isi_ty2 hk (by simp) (by simp)
@[simp] theorem known_s1 : known (.int i) = true := (rfl)
@[simp] theorem known_s2 : known (.bl a) = true := (rfl)
@[simp] theorem known_s3 : known .non = true := (rfl)
@[simp] theorem known_s4 : known (.tup xs) = true := (rfl)
@[simp] theorem known_s5 : known (.lst xs) = true := (rfl)
@[simp] theorem known_s6 {z : Str} : known (.str z) = true := (rfl)
@[simp] theorem known_s7 {kvs : List (Key × D)} : known (.dK kvs) = true := (rfl)
@[simp] theorem isi_exc_cls {T : Tab} {C A : Addr} (h : C ∈ T.exc) : isiF T [.exc C [], .cls A] = (find2 T.cc C A).map fun b => .d (.bl b) := by
  have e : tyOf T (.exc C []) = some (.inl C) := if_pos h
  show (tyOf T (.exc C [])).bind (fun t => (oneI T t (.cls A)).map fun b => S.d (.bl b)) = _
  rw [e]; rfl
@[simp] theorem isi_exc_ty {T : Tab} {C : Addr} {n : String} (h : C ∈ T.exc) : isiF T [.exc C [], .ty n] = (find2 T.ct C n).map fun b => .d (.bl b) := by
  have e : tyOf T (.exc C []) = some (.inl C) := if_pos h
  show (tyOf T (.exc C [])).bind (fun t => (oneI T t (.ty n)).map fun b => S.d (.bl b)) = _
  rw [e]; rfl
@[simp] theorem isi_ins_cls {T : Tab} {C A : Addr} {fs : List (Str × D)} (h : C ∈ T.ins) : isiF T [.ins C fs, .cls A] = (find2 T.cc C A).map fun b => .d (.bl b) := by
  have e : tyOf T (.ins C fs) = some (.inl C) := if_pos h
  show (tyOf T (.ins C fs)).bind (fun t => (oneI T t (.cls A)).map fun b => S.d (.bl b)) = _
  rw [e]; rfl
@[simp] theorem eqF_bl : eqF (.bl a) (.bl b) = (a == b) := (rfl)
@[simp] theorem eqF_int : eqF (.int i) (.int j) = (i == j) := (rfl)
@[simp] theorem eqF_nn : eqF .non .non = true := (rfl)
@[simp] theorem eqF_in : eqF (.int i) .non = false := (rfl)
@[simp] theorem eqF_ni : eqF .non (.int i) = false := (rfl)
@[simp] theorem flatD_bl : flatD (.bl a) = true := (rfl)
@[simp] theorem flatD_int : flatD (.int i) = true := (rfl)
@[simp] theorem flatD_non : flatD .non = true := (rfl)
@[simp] theorem flatD_str {z : Str} : flatD (.str z) = true := (rfl)
@[simp] theorem find2_cons {α β : Type} [DecidableEq α] [DecidableEq β] {p : α × β × Bool} {r : List (α × β × Bool)} {a : α} {b : β} : find2 (p :: r) a b = if p.1 = a ∧ p.2.1 = b then some p.2.2 else find2 r a b := (rfl)

end
/-! ### loops -/
section
variable {g : List S → D → Option (List S)} {body : List S → Fl} {vs : List Nat} {δ : List S}
/-- a for by its slots ahead of each item -/
theorem forF_inv {ys : List D} (I : Nat → List S) (h : ∀ i y, ys[i]? = some y → ∃ δ1 δ2, g (I i) y = some δ1 ∧ (body δ1 = .nx δ2 ∨ body δ1 = .ct δ2) ∧ wpF vs δ2 = I (i + 1)) : forF g body vs ys (I 0) = .nx (I ys.length) := by
  have main : ∀ (n : Nat) (zs : List D), zs = ys.drop n → n ≤ ys.length → forF g body vs zs (I n) = .nx (I ys.length) := by
    intro n zs
    induction zs generalizing n with
    | nil =>
      intro e hn
      have : n = ys.length := by
        have := congrArg List.length e
        rw [List.length_drop, List.length_nil] at this; omega
      rw [this]; rfl
    | cons y r ih =>
      intro e hn
      have hlt : n < ys.length := by
        have := congrArg List.length e
        rw [List.length_drop, List.length_cons] at this; omega
      rw [List.drop_eq_getElem_cons hlt] at e
      obtain ⟨rfl, er⟩ := List.cons.inj e
      obtain ⟨δ1, δ2, h1, h2, h3⟩ := h n _ (List.getElem?_eq_getElem hlt)
      unfold forF
      rw [h1]
      rcases h2 with h2 | h2 <;> (simp only [h2]; rw [h3]; exact ih (n + 1) er hlt)
  exact main 0 ys rfl (Nat.zero_le _)
/-- .. that leaves at the first item of a kind -/
theorem forF_out {ys : List D} {r : Fl} (I : Nat → List S) (k : Nat) (y : D) (hk : ys[k]? = some y) (h : ∀ i y, i < k → ys[i]? = some y → ∃ δ1 δ2, g (I i) y = some δ1 ∧ (body δ1 = .nx δ2 ∨ body δ1 = .ct δ2) ∧ wpF vs δ2 = I (i + 1))
    (ho : ∃ δ1, g (I k) y = some δ1 ∧ ((body δ1 = r ∧ ∃ s, r = .rt s) ∨ ∃ δ2, body δ1 = .bk δ2 ∧ r = .nx δ2)) : forF g body vs ys (I 0) = r := by
  have main : ∀ (m n : Nat), n + m = k → forF g body vs (ys.drop n) (I n) = r := by
    intro m
    induction m with
    | zero =>
      intro n e
      have hkl := (List.getElem?_eq_some_iff.mp hk).1
      have : n = k := by omega
      subst this
      rw [List.drop_eq_getElem_cons hkl, (List.getElem?_eq_some_iff.mp hk).2]
      obtain ⟨δ1, h1, h2⟩ := ho
      unfold forF
      rw [h1]
      rcases h2 with ⟨h2, s, rfl⟩ | ⟨δ2, h2, rfl⟩
      · simp only [h2]
      · simp only [h2]
    | succ m ih =>
      intro n e
      have hkl := (List.getElem?_eq_some_iff.mp hk).1
      have hn : n < ys.length := by omega
      rw [List.drop_eq_getElem_cons hn]
      obtain ⟨δ1, δ2, h1, h2, h3⟩ := h n _ (by omega) (List.getElem?_eq_getElem hn)
      unfold forF
      rw [h1]
      rcases h2 with h2 | h2 <;> (simp only [h2]; rw [h3]; exact ih (n + 1) (by omega))
  exact main k 0 (by omega)
/-- a search: the first item of which q tells something is handed back -/
theorem forF_fs {α : Type} {ys : List α} {h : α → D} {q : α → Option S} (k : ∀ y ∈ ys, ∃ δ1, g δ (h y) = some δ1 ∧ (match q y with | some s => body δ1 = .rt s | none => ∃ δ2, (body δ1 = .nx δ2 ∨ body δ1 = .ct δ2) ∧ wpF vs δ2 = δ)) : forF g body vs (ys.map h) δ = match ys.findSome? q with | some s => .rt s | none => .nx δ := by
  induction ys with
  | nil => rfl
  | cons y r ih =>
    obtain ⟨δ1, h1, h2⟩ := k y (List.mem_cons_self ..)
    rw [List.map_cons]
    unfold forF
    rw [h1]
    cases e : q y with
    | some s =>
      rw [e] at h2
      rw [List.findSome?_cons, e]
      simp only [h2]
    | none =>
      rw [e] at h2
      rw [List.findSome?_cons, e]
      obtain ⟨δ2, h3, h4⟩ := h2
      have := ih fun z hz => k z (List.mem_cons_of_mem _ hz)
      rcases h3 with h3 | h3 <;> (simp only [h3]; rw [h4]; exact this)
theorem forF_fsR {lo : Int} {n : Nat} {q : Nat → Option S} (k : ∀ i, i < n → ∃ δ1, g δ (.int (lo + (i : Int))) = some δ1 ∧ (match q i with | some s => body δ1 = .rt s | none => ∃ δ2, (body δ1 = .nx δ2 ∨ body δ1 = .ct δ2) ∧ wpF vs δ2 = δ)) : forF g body vs (rg lo n) δ = match (List.range n).findSome? q with | some s => .rt s | none => .nx δ :=
  forF_fs (h := fun (i : Nat) => D.int (lo + (i : Int))) fun i hi => k i (List.mem_range.mp hi)
/-- .. over a range -/
theorem rg_get {lo : Int} {n i : Nat} {y : D} (h : (rg lo n)[i]? = some y) : i < n ∧ y = .int (lo + (i : Int)) := by
  unfold rg at h
  rw [List.getElem?_map, Option.map_eq_some_iff] at h
  obtain ⟨a, h1, rfl⟩ := h
  obtain ⟨h2, rfl⟩ := range_get h1
  exact ⟨h2, rfl⟩
@[simp] theorem rg_len {lo : Int} {n : Nat} : (rg lo n).length = n := by unfold rg; simp
theorem rg_at {lo : Int} {n i : Nat} (h : i < n) : (rg lo n)[i]? = some (.int (lo + (i : Int))) := by
  unfold rg; rw [List.getElem?_map, List.getElem?_range h]; rfl
/-! ### comprehensions -/
theorem lcF_all {α : Type} {st : D → M (Option D)} {h f : α → D} : ∀ {ys : List α}, (∀ y ∈ ys, st (h y) = .ok (some (f y))) → lcF st (ys.map h) = .ok (ys.map f)
  | [], _ => rfl
  | y :: r, k => by
    show (st (h y)).bin _ = _
    rw [k y (List.mem_cons_self ..)]
    show (lcF st (r.map h)).bin _ = _
    rw [lcF_all (fun z hz => k z (List.mem_cons_of_mem _ hz))]; rfl
theorem lcF_some {α : Type} {st : D → M (Option D)} {h f : α → D} {p : α → Bool} : ∀ {ys : List α}, (∀ y ∈ ys, st (h y) = .ok (if p y = true then some (f y) else none)) → lcF st (ys.map h) = .ok ((ys.filter p).map f)
  | [], _ => rfl
  | y :: r, k => by
    show (st (h y)).bin _ = _
    rw [k y (List.mem_cons_self ..)]
    show (lcF st (r.map h)).bin _ = _
    rw [lcF_some (p := p) (fun z hz => k z (List.mem_cons_of_mem _ hz))]
    cases hp : p y <;> simp [hp]
theorem lcF_rg {st : D → M (Option D)} {lo : Int} {n : Nat} {f : Nat → D} (h : ∀ i, i < n → st (.int (lo + (i : Int))) = .ok (some (f i))) : lcF st (rg lo n) = .ok ((List.range n).map f) :=
  lcF_all fun i hi => h i (List.mem_range.mp hi)
theorem lcF_rgP {st : D → M (Option D)} {lo : Int} {n : Nat} {f : Nat → D} {p : Nat → Bool} (h : ∀ i, i < n → st (.int (lo + (i : Int))) = .ok (if p i = true then some (f i) else none)) : lcF st (rg lo n) = .ok (((List.range n).filter p).map f) :=
  lcF_some (h := fun (i : Nat) => D.int (lo + (i : Int))) fun i hi => h i (List.mem_range.mp hi)
theorem lcF_D {st : D → M (Option D)} {f : D → D} {ys : List D} (h : ∀ y ∈ ys, st y = .ok (some (f y))) : lcF st ys = .ok (ys.map f) := by
  have := lcF_all (h := id) (f := f) h
  rwa [List.map_id] at this
end
end Far
/-! divmod, abs, sorted of whole numbers, any. -/
namespace Far
open PySem L2
section
variable {Hy : PySem.W.Frag → Prop}
def rDvm : List V → Hp → VK → Prop := fun xs H Q => ∃ i j, xs = [.int i, .int j] ∧ CDivP i j ∧ ∀ p, H p = none → Q (.ref p) (upd H p (.tup [.int (i / j), .int (i % j)]))
def dvmF : List D → Option S
  | [.int i, .int j] => if 0 < j ∧ Builtin.divisionGoesByPylong i j = false then some (.d (.utp [.int (i / j), .int (i % j)])) else none
  | _ => none
def bDivmod : OB Hy := ⟨fun _ => rDvm, dvmF, fun K hk xs s h => by
  unfold dvmF at h; split at h
  · split at h
    · rename_i i j q
      cases h
      intro He Ge H G σ δ vs ok r Q w
      cases r with
      | cons r1 r2 =>
        cases r1
        cases r2 with
        | cons r2 r3 =>
          cases r2; cases r3
          exact ⟨i, j, rfl, q, fun p hp => w _ _ ⟨_, (ok.newG hp).pushD (.utp (SqT.of upd_same) (.cons .int (.cons .int .nil)))⟩⟩
    · cases h
  · cases h⟩
def rAbs : List V → Hp → VK → Prop := fun xs H Q => ∃ i, xs = [.int i] ∧ Q (.int (if i < 0 then -i else i)) H
def absF : List D → Option S
  | [.int i] => some (.d (.int (if i < 0 then -i else i))) | _ => none
def bAbs : OB Hy := ⟨fun _ => rAbs, absF, fun K hk xs s h => by
  unfold absF at h; split at h
  · cases h
    intro He Ge H G σ δ vs ok r Q w
    cases r with
    | cons r1 r2 => cases r1; cases r2; exact ⟨_, rfl, w _ _ (done ok .int)⟩
  · cases h⟩
def sortI (ns : List Int) : List Int := ns.mergeSort fun a b => decide (a ≤ b)
theorem sortI_perm (ns : List Int) : (sortI ns).Perm ns := List.mergeSort_perm ..
theorem sortI_le (ns : List Int) : (sortI ns).Pairwise (· ≤ ·) := by
  have := List.pairwise_mergeSort (le := fun a b : Int => decide (a ≤ b)) (fun a b c h k => by simp only [decide_eq_true_eq] at *; omega) (fun a b => by simp only [Bool.or_eq_true, decide_eq_true_eq]; omega) ns
  exact this.imp fun h => by simpa using h
theorem sortI_eq {ns ms : List Int} (h1 : ms.Perm ns) (h2 : ms.Pairwise (· ≤ ·)) : ms = sortI ns :=
  List.Perm.eq_of_pairwise (fun a b _ _ h k => Int.le_antisymm h k) h2 (sortI_le ns) (h1.trans (sortI_perm ns).symm)
def sortF : List D → Option S
  | [.lst xs] => (intsD xs).map fun ns => .own ((sortI ns).map .int) | _ => none
theorem rpL_ints (K : PySem.W.Frag) (G : Hp) : ∀ l : List Int, RpL K G (l.map D.int) (l.map V.int)
  | [] => .nil
  | _ :: r => .cons .int (rpL_ints K G r)
def bSorted : OB Hy := ⟨fun K => rSortedI K, sortF, fun K hk xs s h => by
  unfold sortF at h; split at h
  · obtain ⟨ns, e, rfl⟩ := Option.map_eq_some_iff.mp h
    rw [intsD_to e]
    intro He Ge H G σ δ vs ok r Q q
    cases r with
    | cons r r2 =>
      cases r2
      cases r with
      | lst hl r =>
        rw [rp_ints_inv r] at hl
        refine ⟨_, ns, rfl, SqL.of (ok.gh _ _ hl), fun ms p h1 h2 hp => ?_⟩
        rw [sortI_eq h1 h2]
        exact q _ _ (doneL ok hp (rpL_ints K G _))
  · cases h⟩
def anyF : List D → Option S
  | [.lst xs] => (bools xs).map fun bs => .d (.bl (bs.any id)) | _ => none
def bAny : OB Hy := ⟨fun K => rAny K, anyF, fun K hk xs s h => by
  unfold anyF at h; split at h
  · obtain ⟨bs, e, rfl⟩ := Option.map_eq_some_iff.mp h
    rw [bools_to e]
    intro He Ge H G σ δ vs ok r Q q
    have inv : ∀ {bs : List Bool} {vs : List V}, RpL K G (bs.map .bl) vs → vs = bs.map V.bl := by
      intro bs
      induction bs with
      | nil => intro vs r; cases r; rfl
      | cons b bs ih => intro vs r; cases r with | cons r0 r => cases r0; rw [ih r]; rfl
    cases r with
    | cons r r2 =>
      cases r2
      cases r with
      | lst hl r => rw [inv r] at hl; exact ⟨_, bs, rfl, SqL.of (ok.gh _ _ hl), q _ _ (done ok .bl)⟩
  · cases h⟩
@[simp] theorem bDivmod_f : (bDivmod : OB Hy).f = dvmF := (rfl)
@[simp] theorem bAbs_f : (bAbs : OB Hy).f = absF := (rfl)
@[simp] theorem bSorted_f : (bSorted : OB Hy).f = sortF := (rfl)
@[simp] theorem bAny_f : (bAny : OB Hy).f = anyF := (rfl)
@[simp] theorem absF_int {i : Int} : absF [.int i] = some (.d (.int (if i < 0 then -i else i))) := (rfl)
@[simp] theorem sortF_ints {ns : List Int} : sortF [.lst (ns.map .int)] = some (.own ((sortI ns).map .int)) := by
  show (intsD (ns.map .int)).map _ = _
  rw [ints_id]; rfl
theorem pylong_small {i j : Int} (h0 : 0 < j) (h : j < 1073741824) : Builtin.divisionGoesByPylong i j = false := by
  unfold Builtin.divisionGoesByPylong
  have h1 : j.natAbs.log2 < 30 := (Nat.log2_lt (by omega)).mpr (by omega)
  have h2 : j.natAbs.log2 / 30 + 1 = 1 := by omega
  simp only [h2]
  have : ¬ (j == 0) = true := by simp; omega
  simp [this]
theorem dvmF_small {i j : Int} (h0 : 0 < j) (h : j < 1073741824) : dvmF [.int i, .int j] = some (.d (.utp [.int (i / j), .int (i % j)])) := if_pos ⟨h0, pylong_small h0 h⟩
end
end Far
/-! Lists of one's own lent to an expression; ranges as lists; turned sequences; an object of which a field is put behind its making. -/
namespace Far
open PySem L2
/-- no list in it -/
def lf : D → Bool
  | .non => true | .bl _ => true | .int _ => true | .str _ => true | .ty _ => true | .cls _ => true
  | .tup xs => lfL xs | .ins _ fs => lfF fs
  | _ => false
where
  lfL : List D → Bool
    | [] => true
    | x :: r => lf x && lfL r
  lfF : List (Str × D) → Bool
    | [] => true
    | (_, x) :: r => lf x && lfF r
theorem lfL_all : ∀ xs : List D, lf.lfL xs = xs.all lf
  | [] => by simp [lf.lfL]
  | x :: r => by rw [lf.lfL, List.all_cons, lfL_all r]
theorem lfF_all : ∀ fs : List (Str × D), lf.lfF fs = fs.all fun p => lf p.2
  | [] => by simp [lf.lfF]
  | (f, x) :: r => by rw [lf.lfF, List.all_cons, lfF_all r]
section
variable {K : PySem.W.Frag} {G G2 : Hp}
mutual
theorem Rp.trim (hG : ∀ a o, G a = some o → (∀ us, o ≠ .lst us) → (∀ us, o ≠ .dK us) → ntb o = true → G2 a = some o) : ∀ {x : D} {v : V}, lf x = true → Rp K G x v → Rp K G2 x v
  | _, _, _, .non => .non
  | _, _, _, .bl => .bl
  | _, _, _, .int => .int
  | _, _, _, .str => .str
  | _, _, _, .ty => .ty
  | _, _, _, .cls => .cls
  | _, _, l, .tup h r => .tup (h.imp (fun ⟨o, h1, h2⟩ => ⟨o, hG _ _ h1 (fun us z => by cases z) (fun us z => by cases z) rfl, h2⟩) id) (RpL.trim hG (by simpa [lf] using l) r)
  | _, _, l, .utp h r => by simp [lf] at l
  | _, _, l, .lst h r => by simp [lf] at l
  | _, _, l, .scr h r => by simp [lf] at l
  | _, _, l, .ins h r => .ins (hG _ _ h (fun us z => by cases z) (fun us z => by cases z) rfl) (RpF.trim hG (by simpa [lf] using l) r)
  | _, _, l, .dK h r => by simp [lf] at l
  | _, _, l, .dO h => by simp [lf] at l
  | _, _, l, .exc0 h => by simp [lf] at l
  | _, _, l, .exc1 h h2 r n => by simp [lf] at l
  | _, _, l, .exo h => by simp [lf] at l
  | _, _, l, .lam h r => by simp [lf] at l
theorem RpL.trim (hG : ∀ a o, G a = some o → (∀ us, o ≠ .lst us) → (∀ us, o ≠ .dK us) → ntb o = true → G2 a = some o) : ∀ {xs : List D} {vs : List V}, lf.lfL xs = true → RpL K G xs vs → RpL K G2 xs vs
  | _, _, _, .nil => .nil
  | _, _, l, .cons h r => by
    rw [lf.lfL, Bool.and_eq_true] at l
    exact .cons (Rp.trim hG l.1 h) (RpL.trim hG l.2 r)
theorem RpF.trim (hG : ∀ a o, G a = some o → (∀ us, o ≠ .lst us) → (∀ us, o ≠ .dK us) → ntb o = true → G2 a = some o) : ∀ {xs : List (Str × D)} {vs : List (Str × V)}, lf.lfF xs = true → RpF K G xs vs → RpF K G2 xs vs
  | _, _, _, .nil => .nil
  | _, _, l, .cons h r => by
    rw [lf.lfF, Bool.and_eq_true] at l
    exact .cons (Rp.trim hG l.1 h) (RpF.trim hG l.2 r)
end
end
/-- a slot lent -/
def lendS : S → S | .own xs => .d (.lst xs) | .okd xs => .d (.dK xs) | .oko _ => .un | .ob _ _ _ => .un | s => s
def lfS : S → Bool | .d x => lf x | .own xs => lf.lfL xs | .un => true | .okd _ => false | .oko _ => false | .ob _ _ _ => false | .ot _ _ _ => false
open Classical in
theorem lend_step {K : PySem.W.Frag} {He Ge H G : Hp} {σ : L2.St} {δ : List S} (ok : OKG K He Ge H G σ δ) :
    ∃ Gp, OKG K H Gp H Gp σ (δ.map lendS) ∧ ∀ (s : S) (v : V) (H' : Hp), lfS s = true → OK K H Gp H' (some v :: σ) (s :: δ.map lendS) → OK K He Ge H' (some v :: σ) (s :: δ) := by
  let L : Addr → Prop := fun a => ∃ (i : Nat), ((∃ xs : List D, δ[i]? = some (S.own xs)) ∨ ∃ xs : List (Key × D), δ[i]? = some (S.okd xs)) ∧ σ[i]? = some (some (V.ref a))
  let Gp : Hp := fun a => if L a then H a else G a
  have hL : ∀ a, L a → ∃ u, H a = some u ∧ G a = none ∧ ((∃ vs, u = .lst vs) ∨ ∃ vs, u = .dK vs) := by
    rintro a ⟨i, h1, h2⟩
    rcases h1 with ⟨xs, h1⟩ | ⟨xs, h1⟩
    · obtain ⟨o, e, p, vs, rfl, k1, k2, k3, r⟩ := ok.sl i _ h1
      rw [e] at h2; cases h2
      exact ⟨_, k3, k2, .inl ⟨vs, rfl⟩⟩
    · obtain ⟨o, e, p, vs, rfl, k1, k2, k3, r⟩ := ok.sl i _ h1
      rw [e] at h2; cases h2
      exact ⟨_, k3, k2, .inr ⟨vs, rfl⟩⟩
  have g1 : Ex G Gp := .of fun a o e => by
    by_cases z : L a
    · obtain ⟨_, _, h, _⟩ := hL a z; rw [h] at e; cases e
    · show (if L a then H a else G a) = _; rw [if_neg z]; exact e
  have g2 : Ex Gp H := ⟨fun a o e n => by
    have e : (if L a then H a else G a) = _ := e
    split at e
    · exact e
    · exact ok.gh.nt a o e n, fun a ps e => by
    have e : (if L a then H a else G a) = _ := e
    split at e
    · exact ⟨ps, e⟩
    · exact ok.gh.tb a ps e⟩
  refine ⟨Gp, ⟨.refl _, g2, .refl _, ⟨fun _ _ z => z, ok.nc.tb.mono (fun _ _ e => e) g1, ok.nc.tb.mono (fun _ _ e => e) g1⟩, fun i s hi => ?_, fun i j s t p hij hi hj o1 => ?_⟩, fun s v H' ls ⟨G', ok'⟩ => ?_⟩
  · rw [List.getElem?_map] at hi
    cases e0 : δ[i]? with
    | none => rw [e0] at hi; cases hi
    | some s0 =>
      rw [e0] at hi
      cases hi
      obtain ⟨o, e, k⟩ := ok.sl i _ e0
      refine ⟨o, e, ?_⟩
      cases s0 with
      | un => trivial
      | ot _ _ _ => trivial
      | d x => obtain ⟨v, e1, r⟩ := k; exact ⟨v, e1, r.mono g1⟩
      | own xs =>
        obtain ⟨p, vs, rfl, k1, k2, k3, r⟩ := k
        exact ⟨_, rfl, .lst (show (if L p then H p else G p) = _ by rw [if_pos ⟨i, .inl ⟨xs, e0⟩, e⟩]; exact k3) (r.mono g1)⟩
      | okd xs =>
        obtain ⟨p, vs, rfl, k1, k2, k3, r⟩ := k
        exact ⟨_, rfl, .dK (show (if L p then H p else G p) = _ by rw [if_pos ⟨i, .inr ⟨xs, e0⟩, e⟩]; exact k3) (r.mono g1)⟩
      | oko xs => trivial
      | ob a C fs => trivial
  · exfalso
    rw [List.getElem?_map] at hi
    cases e0 : δ[i]? with
    | none => rw [e0] at hi; cases hi
    | some s0 => rw [e0] at hi; cases hi; cases s0 <;> cases o1
  · let G2 : Hp := fun a => if H a = none then G' a else G a
    have f1 : Ex G G2 := .of fun a o e => by
      show (if H a = none then G' a else G a) = _
      rw [if_neg (fun z => by rw [ok.gh.none z] at e; cases e)]; exact e
    have f2 : Ex G2 H' := ⟨fun a o e n => by
      have e : (if H a = none then G' a else G a) = _ := e
      split at e
      · exact ok'.gh.nt a o e n
      · exact (ok.gh.trans ok'.he).nt a o e n, fun a ps e => by
      have e : (if H a = none then G' a else G a) = _ := e
      split at e
      · exact ok'.gh.tb a ps e
      · exact (ok.gh.trans ok'.he).tb a ps e⟩
    have hG : ∀ a o, G' a = some o → (∀ us, o ≠ .lst us) → (∀ us, o ≠ .dK us) → ntb o = true → G2 a = some o := fun a o e n n2 n3 => by
      show (if H a = none then G' a else G a) = _
      by_cases z : H a = none
      · rw [if_pos z]; exact e
      · rw [if_neg z]
        cases e2 : Gp a with
        | none => rw [ok'.nc a z e2] at e; cases e
        | some u =>
          have nu : ntb u = true := by
            cases hu : ntb u with
            | true => rfl
            | false =>
              cases u with
              | tbl ps => obtain ⟨_, z⟩ := ok'.ge.tb a ps e2; rw [e] at z; cases z; cases n3
              | _ => cases hu
          have e3 := ok'.ge.nt a u e2 nu
          rw [e] at e3; cases e3
          have e2 : (if L a then H a else G a) = _ := e2
          split at e2
          · rename_i q
            obtain ⟨u2, h, _, hu⟩ := hL a q
            rw [h] at e2; cases e2
            rcases hu with ⟨vs, rfl⟩ | ⟨vs, rfl⟩
            · exact (n vs rfl).elim
            · exact (n2 vs rfl).elim
          · exact e2
    refine ⟨G2, OKG.push ⟨ok.ge.trans f1, f2, ok.he.trans ok'.he, ⟨fun b b1 b2 => ?_, ok.nc.t0, ok'.nc.tb.sub fun c q e => hG c _ e (fun us z => by cases z) (fun us z => by cases z) rfl⟩, fun i s hi => ?_, ok.ne⟩ ?_ ?_⟩
    · show (if H b = none then G' b else G b) = _
      rw [if_neg (fun q => b1 (ok.he.none q))]; exact ok.nc b b1 b2
    · obtain ⟨o, e, k⟩ := ok.sl i s hi
      refine ⟨o, e, ?_⟩
      refine k.mono f1 fun p u q1 q2 q3 q4 => ⟨ok'.he.nt p u q3 q4, ?_⟩
      show (if H p = none then G' p else G p) = _
      rw [if_neg (by rw [q3]; exact fun z => nomatch z)]; exact q2
    · have t := ok'.top
      cases s with
      | un => trivial
      | ot _ _ _ => trivial
      | d x => obtain ⟨w, e, r⟩ := t; exact ⟨w, e, r.trim hG ls⟩
      | own xs =>
        obtain ⟨p, vs, e, k1, k2, k3, r⟩ := t
        exact ⟨p, vs, e, ok.he.none k1, (show (if H p = none then G' p else G p) = _ by rw [if_pos k1]; exact k2), k3, r.trim hG ls⟩
      | okd xs => cases ls
      | oko xs => cases ls
      | ob a C fs => cases ls
    · intro o1 j t p e hj o2 es
      obtain ⟨o, e', k⟩ := ok.sl j t hj
      rw [es] at e'; cases e'
      have hp : H p ≠ none := by
        cases t with
        | un => cases o2
        | ot _ _ _ => cases o2
        | d x => cases o2
        | own xs => obtain ⟨p', vs, e2, _, _, k3, _⟩ := k; cases e2; rw [k3]; exact fun z => nomatch z
        | okd xs => obtain ⟨p', vs, e2, _, _, k3, _⟩ := k; cases e2; rw [k3]; exact fun z => nomatch z
        | oko xs => obtain ⟨p', vs, e2, _, _, k3⟩ := k; cases e2; rw [k3]; exact fun z => nomatch z
        | ob q C fs => obtain ⟨a, dx, gs, e2, _, _, _, _, _, k5, _⟩ := k; cases e2; rw [k5]; exact fun z => nomatch z
      have t' := ok'.top
      cases s with
      | un => cases o1
      | ot _ _ _ => cases o1
      | d x => cases o1
      | own xs => obtain ⟨p', vs, e2, k1, _⟩ := t'; rw [e] at e2; cases e2; exact hp k1
      | okd xs => cases ls
      | oko xs => cases ls
      | ob a C fs => cases ls
theorem ev_lendA {K : PySem.W.Frag} {te : TE} {δ : List S} {s : S} (h : EV K te (δ.map lendS) s) (ls : lfS s = true) : EV K te δ s := by
  intro He Ge H τo τs σ hl ⟨G, ok⟩ Q q
  obtain ⟨Gp, ok1, back⟩ := lend_step ok
  rw [List.map_append] at ok1 back
  exact h H Gp H τo (τs.map lendS) σ (by simpa using hl) ⟨Gp, ok1⟩ Q fun v H' ok' => q v H' (back s v H' ls ok')
section
variable {Hy : PySem.W.Frag → Prop}
def lendM : M S → M S | .ok s => if lfS s = true then .ok s else .no | _ => .no
/-- an expression to which lists of one's own are lent -/
def SE.lend (e : SE Hy) : SE Hy where
  t K W := e.t K W
  f δ := lendM (e.f (δ.map lendS))
  ok K hk W δ := by
    have z := e.ok K hk W (δ.map lendS)
    cases h : e.f (δ.map lendS) with
    | ok s =>
      rw [h] at z
      show EVF K W _ δ (if lfS s = true then .ok s else .no)
      split
      · exact ev_lendA z (by assumption)
      · trivial
    | _ => trivial
@[simp] theorem SE.lend_f (e : SE Hy) (δ : List S) : (SE.lend e).f δ = lendM (e.f (δ.map lendS)) := (rfl)
@[simp] theorem lendM_ok {s : S} : lendM (.ok s) = if lfS s = true then .ok s else .no := (rfl)
@[simp] theorem lendS_own {xs : List D} : lendS (.own xs) = .d (.lst xs) := (rfl)
@[simp] theorem lendS_d {x : D} : lendS (.d x) = .d x := (rfl)
@[simp] theorem lendS_un : lendS .un = .un := (rfl)
@[simp] theorem lfS_d {x : D} : lfS (.d x) = lf x := (rfl)
@[simp] theorem lfS_own {xs : List D} : lfS (.own xs) = xs.all lf := lfL_all xs
@[simp] theorem lf_non : lf .non = true := by rw [lf]
@[simp] theorem lf_bl {b : Bool} : lf (.bl b) = true := by rw [lf]
@[simp] theorem lf_int {b : Int} : lf (.int b) = true := by rw [lf]
@[simp] theorem lf_str {b : Str} : lf (.str b) = true := by rw [lf]
@[simp] theorem lf_tup {xs : List D} : lf (.tup xs) = xs.all lf := by rw [lf]; exact lfL_all xs
@[simp] theorem lf_ins {C : Addr} {fs : List (Str × D)} : lf (.ins C fs) = fs.all fun p => lf p.2 := by rw [lf]; exact lfF_all fs
/-- a test to which lists of one's own are lent -/
theorem eb_lendA {K : PySem.W.Frag} {tt : TT} {δ : List S} {b : Bool} (h : EB K tt (δ.map lendS) b) : EB K tt δ b := by
  intro He Ge H τo τs σ hl ⟨G, ok⟩ Q q
  obtain ⟨Gp, ok1, back⟩ := lend_step ok
  rw [List.map_append] at ok1 back
  refine h H Gp H τo (τs.map lendS) σ (by simpa using hl) ⟨Gp, ok1⟩ Q fun H' ⟨G', ok'⟩ => ?_
  obtain ⟨G2, ok2⟩ := back (.d .non) .non H' lf_non ⟨G', ok'.pushD .non⟩
  exact q H' ⟨G2, ok2.pop⟩
def ST.lend (e : ST Hy) : ST Hy where
  t K W := e.t K W
  f δ := e.f (δ.map lendS)
  ok K hk W δ := by
    have z := e.ok K hk W (δ.map lendS)
    cases h : e.f (δ.map lendS) with
    | ok b => rw [h] at z; exact eb_lendA z
    | _ => trivial
@[simp] theorem ST.lend_f (e : ST Hy) (δ : List S) : (ST.lend e).f δ = e.f (δ.map lendS) := (rfl)
end
end Far
/-! list(range(..)) of ends of any size. -/
namespace Far
open PySem L2 PySem.Spec PyProof.Rows
section
variable {prog : Program} {w : World} {Ar : Around} {Ex' : Value → Shared → Prop} {s : Shared}
theorem far_fill {Rz : Result → Shared → Prop} {q : Addr} {lo hi st : Int} {t1 t2 t3 : Tok} {m : Nat} (ha : Ar.handled = none)
    (rq : IsRange s.heap q lo hi st t1 t2 t3) (big : Builtin.Range.small lo hi st = false) (cnt : Builtin.Range.rangeSize lo hi st = m) (few : m ≤ 2 ^ 24)
    (L : Addr) (rt : Value) (cap : Nat) (hL : s.heap.get? L = some { cls := .type "list", data := .seq #[] cap })
    (go : ∀ (hp : Heap) (tk : Nat) (xs : Array Value) (cp : Nat), (∀ b o, b ≠ L → s.heap.get? b = some o → hp.get? b = some o) →
      hp.get? L = some { cls := .type "list", dict := none, data := .seq xs cp, slots := #[] } → ItemsOf (fun i v => ∃ t, v = .int (lo + i * st) t) xs m → Rz (.ok (.ret rt)) { s with heap := hp, toks := tk }) :
    wpAny (model prog w) Ar.in1 (Builtin.List.listExtendWith (.ref L) (.ref q) rt)
      (fun e s2 => match e with | .done f => Rz (.ok f) s2 | .again c => c.quiet = true ∧ codeAny (model prog w) Ar c Rz s2) (fun e s2 => Rz (.error e) s2) s := by
  have nLq : L ≠ q := fun z => by rw [z, rq] at hL; simp at hL
  have ltL : L < s.heap.objs.size := Heap.lt_size hL
  have nLI : L ≠ s.heap.objs.size := Nat.ne_of_lt ltL
  have nLm : L ∉ [s.heap.objs.size] := fun z => nLI (List.mem_singleton.mp z)
  have Wk := (Walks.longrange (prog := prog) (w := w) (A := Ar.in1) ha s.heap.objs.size lo st m).toS
  have main : ∀ (hp : Heap) (c1 tk : Nat), IsLongIter hp s.heap.objs.size (lo + ((0 : Nat) : Int) * st) ((m : Int) - ((0 : Nat) : Int)) st →
      (∀ b o, b ≠ L → s.heap.get? b = some o → hp.get? b = some o) → hp.get? L = some { cls := .type "list", data := .seq #[] c1 } →
      codeAny (model prog w) Ar (.builtin "list.extend.loop" ⟨[.ref L, .ref s.heap.objs.size, rt], []⟩) Rz { s with heap := hp, toks := tk } := fun hp c1 tk it kp h1 => by
    refine codeAny_extend_loopS Wk (by rw [sizeLine_eq]; omega) L nLm rt m 0 _ #[] c1 rfl (Nat.zero_le _) it h1 (ItemsOf.nil _) fun s3 xs cp mv hl hx => ?_
    rw [Moved.eq_with mv]
    refine go s3.heap s3.toks xs cp (fun b o hb e => mv.heap b o (fun z => ?_) (kp b o hb e)) hl hx
    rcases List.mem_cons.mp z with z | z
    · exact hb z
    · exact absurd (Heap.lt_size e) (by rw [List.mem_singleton.mp z]; exact Nat.lt_irrefl _)
  unfold Builtin.List.listExtendWith
  refine wpAny_bind (wpAny_typeOf (T := "range") ⟨_, rq, rfl⟩ ?_)
  have k1 : Builtin.List.listSameRef (.ref L) (.ref q) = false := by simp [Builtin.List.listSameRef, nLq]
  have k2 : (Value.type "range" == Value.type "list") = false := by decide
  have k3 : (Value.type "range" == Value.type "tuple") = false := by decide
  simp only [k1, k2, k3, Bool.or_false, Bool.false_eq_true, if_false]
  refine wpAny_bind (wpAny_pyIter_longrange rq big ?_)
  refine wpAny_bind (wpAny_holding (wpAny_hint_range (n := m) (Heap.get?_push_of_some _ rq) cnt few ?_))
  have it1 : IsLongIter (s.heap.push { cls := .type "longrange_iterator", data := .fields #[rawInt lo, rawInt (Builtin.Range.rangeSize lo hi st), rawInt st] }) s.heap.objs.size
      (lo + ((0 : Nat) : Int) * st) ((m : Int) - ((0 : Nat) : Int)) st := by
    show IsLongIter _ _ _ _ _
    rw [cnt]; simpa using Heap.get?_push_size _ rfl
  have hL1 := Heap.get?_push_of_some { cls := .type "longrange_iterator", data := .fields #[rawInt lo, rawInt (Builtin.Range.rangeSize lo hi st), rawInt st] } hL
  refine wpAny_ite_split (fun _ => ?_) fun _ => wpAny_pure ⟨plainId_quiet F.plain_extend_loop _, main _ cap _ it1 (fun b o _ e => Heap.get?_push_of_some _ e) hL1⟩
  refine wpAny_bind (wpAny_rule ?_)
  refine wpAny_bind ?_
  show wpAny _ _ (updateSeq L (·.push .none) >>= fun _ => updateSeq L (·.pop)) _ _ _
  refine wpAny_bind (wpAny_updateSeq hL1 rfl ?_)
  have hL2 := Heap.get?_update_self (Obj.mapSeq (·.push Value.none)) hL1 rfl
  refine wpAny_updateSeq (hz := by seq_fits) hL2 rfl ?_
  have hL3 := Heap.get?_update_self (Obj.mapSeq (·.pop)) hL2 rfl
  refine wpAny_pure ⟨plainId_quiet F.plain_extend_loop _, main _ _ _ ?_ (fun b o hb e => ?_) hL3⟩
  · refine (Heap.get?_update_other _ _ nLI).trans ?_
    exact (Heap.get?_update_other _ _ nLI).trans it1
  · refine (Heap.get?_update_other _ _ (Ne.symm hb)).trans ?_
    exact (Heap.get?_update_other _ _ (Ne.symm hb)).trans (Heap.get?_push_of_some _ e)
theorem far_init {Rz : Result → Shared → Prop} {q : Addr} {lo hi st : Int} {t1 t2 t3 : Tok} {m : Nat} (ha : Ar.handled = none) (rq : IsRange s.heap q lo hi st t1 t2 t3)
    (big : Builtin.Range.small lo hi st = false) (cnt : Builtin.Range.rangeSize lo hi st = m) (few : m ≤ 2 ^ 24) (L : Addr) (hL : s.heap.get? L = some { cls := .type "list", data := .seq #[] })
    (go : ∀ (hp : Heap) (tk : Nat) (xs : Array Value) (cp : Nat), (∀ b o, b ≠ L → s.heap.get? b = some o → hp.get? b = some o) →
      hp.get? L = some { cls := .type "list", dict := none, data := .seq xs cp, slots := #[] } → ItemsOf (fun i v => ∃ t, v = .int (lo + i * st) t) xs m → Rz (.ok (.ret .none)) { s with heap := hp, toks := tk }) :
    wpAny (model prog w) Ar.in1 (Builtin.«list.__init__» ⟨[.ref L, .ref q], []⟩)
      (fun e s2 => match e with | .done f => Rz (.ok f) s2 | .again c => c.quiet = true ∧ codeAny (model prog w) Ar c Rz s2) (fun e s2 => Rz (.error e) s2) s := by
  have nLq : L ≠ q := fun z => by rw [z, rq] at hL; simp at hL
  show wpAny _ _ (do
    let old ← Builtin.List.listItems (.ref L)
    Builtin.List.listUpdate (.ref L) (fun _ => #[])
    letGo old.toList.reverse
    Builtin.List.listExtendWith (.ref L) (.ref q) .none) _ _ s
  refine wpAny_bind ?_
  unfold Builtin.List.listItems
  refine wpAny_bind (wpAny_seqItems hL rfl (wpAny_pure ?_))
  show wpAny _ _ (updateSeq L (fun _ => #[]) >>= fun _ => letGo (#[] : Array Value).toList.reverse >>= fun _ => Builtin.List.listExtendWith (.ref L) (.ref q) .none) _ _ s
  refine wpAny_bind (wpAny_updateSeq hL rfl ?_)
  have hL2 := Heap.get?_update_self (Obj.mapSeq (fun _ => (#[] : Array Value))) hL rfl
  have rest : ∀ b o, b ≠ L → s.heap.get? b = some o → (s.heap.update L (Obj.mapSeq (fun _ => (#[] : Array Value)))).get? b = some o := fun b o hb e => (Heap.get?_update_other _ _ (Ne.symm hb)).trans e
  refine wpAny_bind (wpAny_letGo ?_)
  refine far_fill ha (rest q _ (Ne.symm nLq) rq) big cnt few L .none _ hL2 fun hp tk xs cp kp hl hx => ?_
  exact go hp tk xs cp (fun b o hb e => kp b o hb (rest b o hb e)) hl hx
theorem call_list_far {Qv : Value → Shared → Prop} {q : Addr} {lo hi st : Int} {t1 t2 t3 : Tok} {m : Nat} (ha : Ar.handled = none) (rq : IsRange s.heap q lo hi st t1 t2 t3)
    (big : Builtin.Range.small lo hi st = false) (cnt : Builtin.Range.rangeSize lo hi st = m) (few : m ≤ 2 ^ 24)
    (go : ∀ (hp : Heap) (tk : Nat) (xs : Array Value) (cp : Nat), (∀ b o, s.heap.get? b = some o → hp.get? b = some o) →
      hp.get? s.heap.objs.size = some { cls := .type "list", dict := none, data := .seq xs cp, slots := #[] } → ItemsOf (fun i v => ∃ t, v = .int (lo + i * st) t) xs m → Qv (.ref s.heap.objs.size) { s with heap := hp, toks := tk }) :
    wpAny (model prog w) Ar (call (.type "list") [.ref q]) Qv Ex' s := by
  refine callType_codes (Q₁ := fun o s1 => o = .ref s.heap.objs.size ∧ s1 = { s with heap := s.heap.push { cls := .type "list", data := .seq #[] } }) F.called_list (F.typeCall_list_1 _) F.entry_list_init (code_list_new _ ⟨rfl, rfl⟩) fun o s1 h1 => ?_
  obtain ⟨rfl, rfl⟩ := h1
  have hL : (s.heap.push { cls := .type "list", data := .seq #[] }).get? s.heap.objs.size = some { cls := .type "list", data := .seq #[] } := Heap.get?_push_size _ rfl
  refine ⟨⟨_, hL, rfl⟩, F.args_list_init_2 _ _, far_init (Ar := Ar.in1) ha (Heap.get?_push_of_some _ rq) big cnt few _ hL fun hp tk xs cp kp hl hx => ?_⟩
  exact ⟨rfl, go hp tk xs cp (fun b o e => kp b o (Nat.ne_of_lt (Heap.lt_size e)) (Heap.get?_push_of_some _ e)) hl hx⟩
end
section
variable {X : Cx} {e : Expr} {te : L2.St → Hp → (Int → Int → Hp → Prop) → Prop}
def tLstRgF (te : L2.St → Hp → (Int → Int → Hp → Prop) → Prop) : TE := fun σ H Q => te σ H fun a b H1 => (b - a).toNat ≤ 2 ^ 24 ∧ ∀ q, H1 q = none → Q (.ref q) (upd H1 q (.lst (L2.rgV a b)))
theorem pe_listRgF {p pos : Pos} (hc : X.calm = true) (hg : Gl X "list") (hm : X.mg "list" = none) (he : PRg X e te)
    (na : starEach [e] X.env = (false, eval e X.env) :: starEach [] X.env := by rfl) : PE X (.Call (.Name "list" p) [e] [] pos) (tLstRgF te) := by
  refine ⟨fun pins s σ H Q I h => ?_⟩
  refine Call_ (ld_blt I hg hm boot_list (PyProof.Rows.callWith_type1 (args_cons (thn (he pins s σ H _ I h) fun x s1 ⟨r, a, b, t, u, v, H1, ex, hr, I1, ok, q⟩ => args_nil ?_) na) na))
  subst ex
  have fin : ∀ (h' : Heap) (tk : Nat) (acc : Array Value) (c' : Nat), (∀ b o, s1.heap.get? b = some o → h'.get? b = some o) → h'.get? s1.heap.objs.size = some { cls := .type "list", dict := none, data := .seq acc c', slots := #[] } →
      ItemsOf (fun i v => ∃ t, v = .int (a + i * 1) t) acc (b - a).toNat → (∃ (x : V) (H' : Hp), Inv X pins σ H' { s1 with heap := h', toks := tk } ∧ RelV x (.ref s1.heap.objs.size) ∧ Q x H') := fun h' tk acc c' hk e' hi => by
    refine ⟨.ref s1.heap.objs.size, upd H1 s1.heap.objs.size (.lst (L2.rgV a b)), I1.laid hk (Nat.le_refl _) (show ObjOk X.prog X.w _ _ _ (.lst (L2.rgV a b)) from ⟨?_, acc.toList, c', vals_rg hi, ?_⟩), rfl, q _ (I1.hok.fresh (Nat.le_refl _))⟩
    · rw [L2.rgV_length, sizeLine_eq]; omega
    · rw [Array.toArray_toList]; exact e'
  cases hs : Builtin.Range.small a b 1 with
  | true => exact call_list_range (n := (b - a).toNat) (I1.ok.hd hc) hr hs (rangeSize_nat a b) ok fin
  | false => exact call_list_far (m := (b - a).toNat) (I1.ok.hd hc) hr hs (rangeSize_nat a b) ok fin
end
end Far
/-! t[::-1] of a tuple without a dict. -/
namespace Far
open PySem L2 PySem.Spec PyProof.Rows HT
section
variable {prog : Program} {w : World} {A : Around} {E : Value → Shared → Prop} {s : Shared}
theorem slice_back {sl : Addr} {u : Tok} {n : Nat} {Q : Int × Int × Nat → Shared → Prop} (hs : s.heap.IsSliceOf sl .none .none (.int (-1) u)) (h : Q ((n : Int) - 1, -1, n) s) :
    wpAny (model prog w) A (Builtin.Slice.sliceApplied (.ref sl) (pure (n : Int))) Q E s := by
  obtain ⟨os, hos, hcs, hds⟩ := id hs
  unfold Builtin.Slice.sliceApplied Builtin.Slice.sliceFields
  refine wpAny_bind (wpAny_bind ?_)
  refine wpAny_field hos hds (x := .none) rfl (wpAny_bind ?_)
  refine wpAny_field hos hds (x := .none) rfl (wpAny_bind ?_)
  refine wpAny_field hos hds (x := .int (-1) u) rfl (wpAny_pure ?_)
  refine wpAny_bind (slicePart_ (IsPart.int (-1) u) ?_)
  show wpAny _ _ (if ((-1 : Int) == 0) = true then _ else _) _ _ s
  rw [if_neg (by decide)]
  refine wpAny_bind (slicePart_none ?_)
  refine wpAny_bind (slicePart_none ?_)
  refine wpAny_bind (wpAny_pure ?_)
  have e : Builtin.Slice.slicePlaces ((n : Int) - 1) (-1) (-1) = n := by
    unfold Builtin.Slice.slicePlaces
    have h1 : ¬ ((-1 : Int) > 0) := by decide
    simp only [h1, if_false]
    by_cases z : (n : Int) - 1 > -1
    · rw [if_pos z]
      have : ((n : Int) - 1 - -1 - 1) / (- -1) + 1 = n := by
        have e1 : ((n : Int) - 1 - -1 - 1) / (- -1) = (n : Int) - 1 - -1 - 1 := Int.ediv_one _
        rw [e1]; omega
      rw [this]; rfl
    · rw [if_neg z]; have : n = 0 := by omega
      subst this; rfl
  show wpAny _ _ (pure ((n : Int) - 1, (-1 : Int), Builtin.Slice.slicePlaces ((n : Int) - 1) (-1) (-1))) _ _ s
  rw [e]
  exact wpAny_pure h
theorem filterMap_ext {α β : Type} {f g : α → Option β} : ∀ {l : List α}, (∀ a ∈ l, f a = g a) → l.filterMap f = l.filterMap g
  | [], _ => rfl
  | a :: r, h => by rw [List.filterMap_cons, List.filterMap_cons, h a (List.mem_cons_self ..), filterMap_ext fun b hb => h b (List.mem_cons_of_mem _ hb)]
theorem pick_back (xs : Array Value) : ((List.range xs.size).filterMap fun (m : Nat) => xs[(((xs.size : Int) - 1) + (m : Int) * (-1)).toNat]?).toArray = xs.toList.reverse.toArray := by
  congr 1
  have : ((List.range xs.size).filterMap fun (m : Nat) => xs[(((xs.size : Int) - 1) + (m : Int) * (-1)).toNat]?) = (List.range xs.size).filterMap fun (m : Nat) => xs.toList.reverse[m]? := by
    apply filterMap_ext
    intro m hm
    have hm := List.mem_range.mp hm
    rw [List.getElem?_reverse (by rw [Array.length_toList]; exact hm), Array.getElem?_toList, Array.length_toList]
    congr 1; omega
  rw [this]
  have key : ∀ l : List Value, ((List.range l.length).filterMap fun (m : Nat) => l[m]?) = l := fun l => by
    induction l with
    | nil => rfl
    | cons a r ih =>
      rw [List.length_cons, List.range_succ_eq_map, List.filterMap_cons]
      simp only [List.getElem?_cons_zero, List.filterMap_map]
      congr 1
  have := key xs.toList.reverse
  rwa [List.length_reverse, Array.length_toList] at this
theorem getItem_tuple_back {t sl : Addr} {items : Array Value} {u : Tok} {Q : Value → Shared → Prop} (ht : IsTup s.heap t items) (hs : s.heap.IsSliceOf sl .none .none (.int (-1) u))
    (h : Q (.ref s.heap.objs.size) { s with heap := s.heap.push { cls := .type "tuple", data := .seq items.toList.reverse.toArray } }) (hsz : items.size ≤ sizeLine) : wpAny (model prog w) A (getItem (.ref t) (.ref sl)) Q E s := by
  have fits : sizeOk (.seq items.toList.reverse.toArray) := by
    show items.toList.reverse.toArray.size ≤ sizeLine
    rw [List.size_toArray, List.length_reverse, Array.length_toList]; exact hsz
  obtain ⟨os, hos, hcs, hds⟩ := id hs
  have hTs : s.TypeIs (.ref sl) "slice" := ⟨os, hos, hcs⟩
  unfold getItem
  try with_reducible refine wpAny_holding ?_
  first | refine wpAny_bind (wpAny_pure ?_) | skip
  refine wpAny_bind (wpAny_sequenceKey ht.typeIs (by decide) ?_)
  refine wpAny_bind (wpAny_callSpecial?_slot (name := Str.ofString "__getitem__") ht.typeIs PyProof.Rows.slot_tuple_getitem
    (wpAny_call_entry PyProof.Rows.slot_tuple_getitem ht.typeIs entry_tuple_getitem ?_
      (args_tuple_getitem _ _)))
  show wpAny _ _ (Builtin.Tuple.tupleItemsOf (.ref t) >>= fun _ => _) _ _ s
  refine wpAny_bind (tupleItemsOf_ ht ?_)
  refine wpAny_bind (wpAny_typeOf hTs ?_)
  rw [if_pos (by decide)]
  refine wpAny_bind (slice_back hs ?_)
  have hno : ¬ (((items.size : Int) - 1 == 0 && (-1 : Int) == 1 && items.size == items.size) = true) := by simp
  show wpAny _ _ (if ((items.size : Int) - 1 == 0 && (-1 : Int) == 1 && items.size == items.size) = true then _ else _) _ _ s
  rw [if_neg hno, pick_back]
  first
    | exact wpAny_bind (m := Builtin.Tuple.tupleExact _) (wpAny_newObj_type (wpAny_pure ⟨_, rfl, wpAny_pure h⟩) fits)
    | exact wpAny_bind (m := Builtin.Tuple.tupleExact _) (wpAny_newObj_type (wpAny_bind (wpAny_pure (wpAny_pure ⟨_, rfl, wpAny_pure h⟩))) fits)
    | exact wpAny_bind (wpAny_bind (m := Builtin.Tuple.tupleExact _) (wpAny_newObj_type (wpAny_pure (wpAny_pure ⟨_, rfl, wpAny_pure h⟩)) fits))
    | exact wpAny_bind (wpAny_bind (m := Builtin.Tuple.tupleExact _) (wpAny_newObj_type (wpAny_pure ⟨_, rfl, wpAny_pure h⟩) fits))
end
section
variable {X : Cx}
def tRevP (K : PySem.W.Frag) (te : TE) : TE := fun σ H Q => te σ H fun x H1 => ∃ a xs, x = .ref a ∧ SqT K H1 a xs ∧ NewT H1 xs.reverse Q
theorem pe_revP {e : Expr} {te : TE} {k : Nat} {p1 p2 p3 pos : Pos} (he : PE X e te) :
    PE X (.Subscript e (.Slice none none (some (.UnaryOp .USub (.Constant (.int 1) k p1) p2)) p3) pos) (tRevP X.K te) := by
  refine ⟨fun pins s σ H Q I h => ?_⟩
  refine Subscript_ (thn (he.run pins s σ H _ I h) fun v s1 q0 => ?_)
  obtain ⟨x, H1, I1, r1, a, xs, rfl, hx, q⟩ := q0
  cases r1
  have back : PO X (some (.UnaryOp .USub (.Constant (.int 1) k p1) p2)) (tPart (tUn (rU fun i => .int (-i)) (tC (.int 1)))) := po_some (pe_un un_neg pe_int)
  refine wpAny_Slice (thn (po_none.run pins s1 σ H1 (fun o G => o = none ∧ G = H1) I1 ⟨rfl, rfl⟩) fun va s2 q2 => ?_)
  obtain ⟨l, H2, I2, pl, rfl, rfl⟩ := q2
  refine thn (po_none.run pins s2 σ H2 (fun o G => o = none ∧ G = H2) I2 ⟨rfl, rfl⟩) fun vb s3 q3 => ?_
  obtain ⟨u, H3, I3, pu, rfl, rfl⟩ := q3
  refine thn (back.run pins s3 σ H3 (fun o G => o = some (-1) ∧ G = H3) I3 ⟨1, rfl, -1, rfl, rfl, rfl⟩) fun vc s4 q4 => ?_
  obtain ⟨o, H4, I4, ps, rfl, rfl⟩ := q4
  cases pl; cases pu
  obtain ⟨tk, rfl⟩ : ∃ tk, vc = .int (-1) tk := by cases ps; exact ⟨_, rfl⟩
  have I5 : Inv X pins σ H4 { s4 with heap := s4.heap.push { cls := .type "slice", data := .fields #[.none, .none, .int (-1) tk] } } := I4.kept (t' := s4.toks) fun b ob q => Heap.get?_push_of_some _ q
  obtain ⟨its, r, ht, hz⟩ := I5.tuple hx
  show wpAny (model X.prog X.w) X.A (subscriptTail e (.Slice none none (some (.UnaryOp .USub (.Constant (.int 1) k p1) p2)) p3) (.ref a) (.ref s4.heap.objs.size)) _ X.xe _
  refine tail_any (ops := [.ref a, .ref s4.heap.objs.size]) ht.typeIs (PyProof.Rows.slot_tuple_getitem.lookup) ?_ (by with_unfolding_all rfl)
  refine getItem_tuple_back ht (Heap.IsSliceOf.new _ .none .none (.int (-1) tk)) ?_ (by rw [List.size_toArray, ← r.length]; exact hz)
  refine ⟨.ref _, _, I5.laid (t' := s4.toks) (o := .frz _ (.tup xs.reverse)) (fun b ob q => Heap.get?_push_of_some _ q) (Nat.le_refl _) ⟨Heap.get?_push_size _ rfl, ?_, _, r.reverse, IsTup.new _ _⟩, rfl, ?_⟩
  · rw [List.length_reverse]; exact hz
  · exact q _ _ (I5.hok.fresh (Nat.le_refl _)) rfl rfl
def tRevU (K : PySem.W.Frag) (te : TE) : TE := tEither (tRevP K te) (tRevL K te)
theorem pe_revU {e : Expr} {te : TE} {k : Nat} {p1 p2 p3 pos : Pos} (he : PE X e te) :
    PE X (.Subscript e (.Slice none none (some (.UnaryOp .USub (.Constant (.int 1) k p1) p2)) p3) pos) (tRevU X.K te) := pe_either (pe_revP he) (pe_revL he)
end
section
variable {K : PySem.W.Frag} {δ : List S} {te : TE} {xs : List D}
theorem RpL.rev {G : Hp} : ∀ {xs : List D} {vs : List V}, RpL K G xs vs → RpL K G xs.reverse vs.reverse
  | _, _, .nil => .nil
  | _, _, .cons h r => by rw [List.reverse_cons, List.reverse_cons]; exact r.rev.append (.cons h .nil)
theorem ev_revT (h : EV K te δ (.d (.tup xs))) : EV K (tRevU K te) δ (.d (.tup xs.reverse)) := by
  intro He Ge H τo τs σ hl ok Q q
  refine Or.inl (h He Ge H τo τs σ hl ok _ fun v H1 ok1 => ?_)
  obtain ⟨G, ok1⟩ := ok1
  obtain ⟨_, e1, r1⟩ := ok1.top
  cases e1
  cases r1 with
  | tup hp r => exact ⟨_, _, rfl, ok1.gh.t hp.t, fun p o hp hc hd => q _ _ (doneT ok1.pop hp hc hd r.rev)⟩
theorem ev_revL (h : EV K te δ (.d (.lst xs))) : EV K (tRevU K te) δ (.own xs.reverse) := by
  intro He Ge H τo τs σ hl ok Q q
  refine Or.inr (h He Ge H τo τs σ hl ok _ fun v H1 ok1 => ?_)
  obtain ⟨G, ok1⟩ := ok1
  obtain ⟨_, e1, r1⟩ := ok1.top
  cases e1
  cases r1 with
  | lst hp r => exact ⟨_, _, rfl, SqL.of (ok1.gh _ _ hp), fun p hp => q _ _ ⟨_, ok1.pop.newOwn hp r.rev⟩⟩
end
end Far
/-! An object of which a field is put just behind its making; list(range(..)); turned sequences. -/
namespace Far
open PySem L2
/-- no instance in it -/
def ni : D → Bool
  | .non => true | .bl _ => true | .int _ => true | .str _ => true | .ty _ => true | .cls _ => true
  | .tup xs => niL xs | .lst xs => niL xs | .utp xs => niL xs | .scr xs => niL xs
  | _ => false
where
  niL : List D → Bool
    | [] => true
    | x :: r => ni x && niL r
theorem niL_all : ∀ xs : List D, ni.niL xs = xs.all ni
  | [] => by simp [ni.niL]
  | x :: r => by rw [ni.niL, List.all_cons, niL_all r]
section
variable {K : PySem.W.Frag} {G G2 : Hp}
mutual
theorem Rp.trimI (hG : ∀ a o, G a = some o → (∀ C dx gs, o ≠ .ins C dx gs) → G2 a = some o) : ∀ {x : D} {v : V}, ni x = true → Rp K G x v → Rp K G2 x v
  | _, _, _, .non => .non
  | _, _, _, .bl => .bl
  | _, _, _, .int => .int
  | _, _, _, .str => .str
  | _, _, _, .ty => .ty
  | _, _, _, .cls => .cls
  | _, _, l, .tup h r => .tup (h.imp (fun ⟨o, h1, h2⟩ => ⟨o, hG _ _ h1 (fun _ _ _ z => by cases z), h2⟩) id) (RpL.trimI hG (by simpa [ni] using l) r)
  | _, _, l, .utp h r => .utp (h.imp (fun h => h.imp (fun h => hG _ _ h (fun _ _ _ z => by cases z)) (fun ⟨o, h⟩ => ⟨o, hG _ _ h (fun _ _ _ z => by cases z)⟩)) id) (RpL.trimI hG (by simpa [ni] using l) r)
  | _, _, l, .lst h r => .lst (hG _ _ h (fun _ _ _ z => by cases z)) (RpL.trimI hG (by simpa [ni] using l) r)
  | _, _, l, .scr h r => .scr (h.imp (fun h => h.imp (fun h => hG _ _ h (fun _ _ _ z => by cases z)) (fun ⟨o, h⟩ => ⟨o, hG _ _ h (fun _ _ _ z => by cases z)⟩)) id) (RpL.trimI hG (by simpa [ni] using l) r)
  | _, _, l, .ins h r => by simp [ni] at l
  | _, _, l, .dK h r => by simp [ni] at l
  | _, _, l, .dO h => by simp [ni] at l
  | _, _, l, .exc0 h => by simp [ni] at l
  | _, _, l, .exc1 h h2 r n => by simp [ni] at l
  | _, _, l, .exo h => by simp [ni] at l
  | _, _, l, .lam h r => by simp [ni] at l
theorem RpL.trimI (hG : ∀ a o, G a = some o → (∀ C dx gs, o ≠ .ins C dx gs) → G2 a = some o) : ∀ {xs : List D} {vs : List V}, ni.niL xs = true → RpL K G xs vs → RpL K G2 xs vs
  | _, _, _, .nil => .nil
  | _, _, l, .cons h r => by
    rw [ni.niL, Bool.and_eq_true] at l
    exact .cons (Rp.trimI hG l.1 h) (RpL.trimI hG l.2 r)
end
theorem RpF.trimI (hG : ∀ a o, G a = some o → (∀ C dx gs, o ≠ .ins C dx gs) → G2 a = some o) : ∀ {fs : List (Str × D)} {gs : List (Str × V)}, (fs.all fun p => ni p.2) = true → RpF K G fs gs → RpF K G2 fs gs
  | _, _, _, .nil => .nil
  | _, _, l, .cons h r => by
    rw [List.all_cons, Bool.and_eq_true] at l
    exact .cons (Rp.trimI hG l.1 h) (RpF.trimI hG l.2 r)
end
def niS : S → Bool | .d x => ni x | .own xs => ni.niL xs | .un => true | .okd _ => false | .oko _ => false | .ob _ _ _ => false | .ot _ _ _ => false
section
variable {K : PySem.W.Frag} {He Ge H G : Hp} {σ : L2.St} {δ : List S}
theorem OKG.putIns {i : Nat} {x C dx : Addr} {fs fs2 : List (Str × D)} {gs gs2 : List (Str × V)} (ok : OKG K He Ge H G σ (δ.set i (.d (.ins C fs)))) (hi : i < δ.length) (hx : σ[i]? = some (some (.ref x))) (g : G x = some (.ins C dx gs)) (e1 : He x = none) (e2 : Ge x = none)
    (hn : (δ.set i .un).all niS = true) (rf : RpF K (upd G x (.ins C dx gs2)) fs2 gs2) : OKG K He Ge (upd H x (.ins C dx gs2)) (upd G x (.ins C dx gs2)) σ (δ.set i (.d (.ins C fs2))) := by
  have hG : ∀ a o, G a = some o → (∀ C dx gs, o ≠ .ins C dx gs) → (upd G x (.ins C dx gs2)) a = some o := fun a o e n => by
    have ne : a ≠ x := fun z => by subst z; rw [g] at e; cases e; exact n _ _ _ rfl
    rw [upd_ne ne]; exact e
  have hh := ok.gh x _ g
  refine ⟨ok.ge.put e2, ok.gh.both, ok.he.put e1, ⟨fun b b1 b2 => ?_, ok.nc.t0, (ok.nc.tb.put (G' := G) (fun ps z => by rw [hh] at z; cases z) (.refl G)).sub fun c q e => hG c _ e fun _ _ _ z => by cases z⟩, fun j s hj => ?_, fun j k s t p hjk hj hk o1 o2 q1 q2 => ?_⟩
  · rw [upd_ne (fun z => by subst z; exact b1 e1)]; exact ok.nc b b1 b2
  · by_cases z : i = j
    · subst z
      rw [List.getElem?_set_self hi] at hj; cases hj
      exact ⟨_, hx, _, rfl, .ins upd_same rf⟩
    · rw [List.getElem?_set_ne z] at hj
      have hs : niS s = true := by
        refine List.all_eq_true.mp hn s ?_
        have : (δ.set i .un)[j]? = some s := by rw [List.getElem?_set_ne z]; exact hj
        exact List.mem_of_getElem? this
      obtain ⟨o, e, k⟩ := ok.sl j s (by rw [List.getElem?_set_ne z]; exact hj)
      refine ⟨o, e, ?_⟩
      cases s with
      | un => trivial
      | ot _ _ _ => trivial
      | d d => obtain ⟨v, e3, r⟩ := k; exact ⟨v, e3, r.trimI hG hs⟩
      | own xs =>
        obtain ⟨p, vs, rfl, k1, k2, k3, r⟩ := k
        have ne : p ≠ x := fun z => by subst z; rw [hh] at k3; cases k3
        exact ⟨p, vs, rfl, k1, by rw [upd_ne ne]; exact k2, by rw [upd_ne ne]; exact k3, r.trimI hG hs⟩
      | okd xs => cases hs
      | oko xs => cases hs
      | ob a C fs => cases hs
  · have un : ∀ (m : Nat) (s : S), (δ.set i (.d (.ins C fs2)))[m]? = some s → owned s = true → (δ.set i (.d (.ins C fs)))[m]? = some s := fun m s z1 z2 => by
      by_cases z : i = m
      · subst z; rw [List.getElem?_set_self hi] at z1; cases z1; cases z2
      · rw [List.getElem?_set_ne z] at z1 ⊢; exact z1
    exact ok.ne j k s t p hjk (un j s hj o1) (un k t hk o2) o1 o2 q1 q2
end
section
variable {Hy : PySem.W.Frag → Prop}
/-- x = C(..); x.f = e; and on -/
noncomputable def SS.mkF (E : WX → L2.St → XK) (i : Nat) (C : Addr) (F : Addr → List D → M (List (Str × D))) (a : SA Hy) (f : Str) (Cs : List Addr) (hf : FldOk Hy f Cs) (e : SE Hy) (r : SS Hy) : SS Hy where
  t K W := tSeq (tAsg (tMakeS C (spI K C (RI C F)) (E W) (a.t K W)) (gName i)) (tSeq (sFld K (tVar i) (e.t K W) f) (r.t K W))
  f δ := Fl.exn (a.f δ) fun xs => Fl.exn (mkR F xs) fun fs => Fl.exn (e.fd (δ.set i (.d (.ins C fs)))) fun y =>
    if i < δ.length ∧ C ∈ Cs ∧ fs.length < 1000 ∧ (δ.set i .un).all niS = true ∧ ni y = true ∧ (fs.all fun p => ni p.2) = true then r.f (δ.set i (.d (.ins C (putD f y fs)))) else .no
  ok K hk W δ := by
    cases h1 : a.f δ with
    | ok xs =>
      rw [Fl.ok_exn]
      cases h2 : mkR F xs with
      | ok fs =>
        rw [Fl.ok_exn]
        cases h3 : e.fd (δ.set i (.d (.ins C fs))) with
        | ok y =>
          rw [Fl.ok_exn]
          by_cases z : i < δ.length ∧ C ∈ Cs ∧ fs.length < 1000 ∧ (δ.set i .un).all niS = true ∧ ni y = true ∧ (fs.all fun p => ni p.2) = true
          · rw [if_pos z]
            obtain ⟨z1, z2, z3, z4, z5, z6⟩ := z
            refine sdf_of fun n => ?_
            have hr := r.okR (W := W) hk n
            intro He Ge H σ Dn ok nx rt bk ct xx
            show tSeq _ _ Dn σ H
            refine a.okA hk h1 He Ge H [] [] σ rfl ok _ fun vs H1 G1 ok1 r1 => ?_
            intro x dx hx hdx ne
            have hh := hid_new (o1 := .own x) (o2 := .ins C dx []) hx hdx
            refine ⟨G1, x, dx, vs, xs, .ret (.d (.ins C fs)), rfl, upd_same, by rw [upd_ne ne, upd_same], ne, by rw [hh]; exact ⟨ok1.gh, ok1.nc.tb⟩, r1, .inl ⟨fs, mkR_ok h2 (fun z => nomatch z), rfl⟩, fun fs' G' H' e' g1 g2 g3 nc k => ?_, fun c fs cls d G' H' e' => (nomatch e')⟩
            cases e'
            rw [hh] at g3 nc
            refine ⟨rfl, ?_⟩
            have e1 : He x = none := ok1.he.none hx
            have e2 : Ge x = none := (ok1.ge.trans ok1.gh).none hx
            have ok2 : OKG K He Ge H' G' (σ.set i (some (.ref x))) (δ.set i (.d (.ins C fs))) := ((ok1.grow g3 g1 g2 nc).pushD k).store z1
            have e1e := e.okD (W := W) hk h3
            refine ev0 e1e ⟨G', ok2⟩ fun v H2 ok3' => ?_
            obtain ⟨G2, ok3⟩ := ok3'
            obtain ⟨c, na⟩ := hf K hk _ z2
            have hi2 : (δ.set i (.d (.ins C fs)))[i]? = some (.d (.ins C fs)) := List.getElem?_set_self z1
            have hlt : i < σ.length := by have := ok.choose_spec.len; omega
            have eo : (σ.set i (some (V.ref x)))[i]? = some (some (.ref x)) := List.getElem?_set_self hlt
            obtain ⟨o, eo', w, rfl, rw_⟩ := ok3.pop.sl i _ hi2
            rw [eo] at eo'; cases eo'
            obtain ⟨yv, ey, ry⟩ := ok3.top
            obtain rfl : v = yv := by cases ey; rfl
            cases rw_ with
            | ins hg rf =>
              rename_i dx2 gs
              refine ⟨_, eo, x, C, dx2, gs, rfl, ok3.gh _ _ hg, c, na, by rw [← rf.length]; exact z3, ?_⟩
              refine hr He Ge _ _ Dn ⟨_, ok3.pop.putIns (gs2 := putF f v gs) z1 eo hg e1 e2 z4 ?_⟩ nx rt bk ct xx
              have hG : ∀ a o, G2 a = some o → (∀ C dx gs, o ≠ .ins C dx gs) → (upd G2 x (.ins C dx2 (putF f v gs))) a = some o := fun a o e n => by
                have ne : a ≠ x := fun z => by subst z; rw [hg] at e; cases e; exact n _ _ _ rfl
                rw [upd_ne ne]; exact e
              exact (rf.trimI hG z6).put (ry.trimI hG z5)
          · rw [if_neg z]; trivial
        | _ => trivial
      | _ => trivial
    | _ => trivial
@[simp] theorem SS.mkF_f (E : WX → L2.St → XK) (i : Nat) (C : Addr) (F : Addr → List D → M (List (Str × D))) (a : SA Hy) (f : Str) (Cs : List Addr) (hf : FldOk Hy f Cs) (e : SE Hy) (r : SS Hy) (δ : List S) : (SS.mkF E i C F a f Cs hf e r).f δ = Fl.exn (a.f δ) fun xs => Fl.exn (mkR F xs) fun fs => Fl.exn (e.fd (δ.set i (.d (.ins C fs)))) fun y =>
    if i < δ.length ∧ C ∈ Cs ∧ fs.length < 1000 ∧ (δ.set i .un).all niS = true ∧ ni y = true ∧ (fs.all fun p => ni p.2) = true then r.f (δ.set i (.d (.ins C (putD f y fs)))) else .no := (rfl)
@[simp] theorem niS_d {x : D} : niS (.d x) = ni x := (rfl)
@[simp] theorem niS_un : niS .un = true := (rfl)
@[simp] theorem niS_own {xs : List D} : niS (.own xs) = xs.all ni := niL_all xs
@[simp] theorem ni_non : ni .non = true := by rw [ni]
@[simp] theorem ni_bl {b : Bool} : ni (.bl b) = true := by rw [ni]
@[simp] theorem ni_int {b : Int} : ni (.int b) = true := by rw [ni]
@[simp] theorem ni_str {b : Str} : ni (.str b) = true := by rw [ni]
@[simp] theorem ni_tup {xs : List D} : ni (.tup xs) = xs.all ni := by rw [ni]; exact niL_all xs
@[simp] theorem ni_lst {xs : List D} : ni (.lst xs) = xs.all ni := by rw [ni]; exact niL_all xs
/-! ### list(range(..)) -/
theorem rp_rgV {K : PySem.W.Frag} {G : Hp} (a b : Int) : RpL K G (rg a (b - a).toNat) (L2.rgV a b) := by
  unfold rg L2.rgV
  generalize List.range (b - a).toNat = l
  induction l with
  | nil => exact .nil
  | cons i r ih => exact .cons .int ih
theorem ev_lstRg2 {K : PySem.W.Frag} {δ : List S} {ta tb : TE} {a b : Int} (ha : EV K ta δ (.d (.int a))) (hb : EV K tb δ (.d (.int b))) (hz : (b - a).toNat ≤ 16777216) : EV K (tLstRgF (tRg2 ta tb)) δ (.own (rg a (b - a).toNat)) := by
  intro He Ge H τo τs σ hl ok Q q
  refine ha He Ge H τo τs σ hl ok _ fun v H1 ok1 => ?_
  refine hb He Ge H1 (some v :: τo) (.d (.int a) :: τs) σ (by simp [hl]) ok1 _ fun u H2 ok2 => ?_
  obtain ⟨G, ok2⟩ := ok2
  obtain ⟨_, e1, r1⟩ := ok2.top
  obtain ⟨_, e2, r2⟩ := ok2.pop.top
  cases e1; cases e2; cases r1; cases r2
  exact ⟨a, b, rfl, rfl, by omega, fun p hp => q _ _ ⟨_, ok2.pop.pop.newOwn hp (rp_rgV a b)⟩⟩
theorem ev_lstRg1 {K : PySem.W.Frag} {δ : List S} {ta : TE} {a : Int} (ha : EV K ta δ (.d (.int a))) (hz : a ≤ 16777216) : EV K (tLstRgF (tRg1 ta)) δ (.own (rg 0 a.toNat)) := by
  intro He Ge H τo τs σ hl ok Q q
  refine ha He Ge H τo τs σ hl ok _ fun v H1 ok1 => ?_
  obtain ⟨G, ok1⟩ := ok1
  obtain ⟨_, e1, r1⟩ := ok1.top
  cases e1; cases r1
  have e : (a - 0).toNat = a.toNat := by omega
  exact ⟨a, rfl, by omega, fun p hp => q _ _ ⟨_, ok1.pop.newOwn hp (by rw [← e]; exact rp_rgV 0 a)⟩⟩
def lrg2F (x y : D) : M S := match x, y with | .int a, .int b => if (b - a).toNat ≤ 16777216 then .ok (.own (rg a (b - a).toNat)) else .no | _, _ => .no
def SE.lstRg2 (a b : SE Hy) : SE Hy where
  t K W := tLstRgF (tRg2 (a.t K W) (b.t K W))
  f δ := (a.fd δ).bin fun x => (b.fd δ).bin fun y => lrg2F x y
  ok K hk W δ := by
    cases h : a.fd δ with
    | ok x =>
      rw [M.ok_bin]
      cases h2 : b.fd δ with
      | ok y =>
        rw [M.ok_bin]
        unfold lrg2F
        split
        · split
          · exact ev_lstRg2 (a.okD hk h) (b.okD hk h2) (by assumption)
          · trivial
        · trivial
      | _ => trivial
    | _ => trivial
def lrg1F (x : D) : M S := match x with | .int a => if a ≤ 16777216 then .ok (.own (rg 0 a.toNat)) else .no | _ => .no
def SE.lstRg1 (a : SE Hy) : SE Hy where
  t K W := tLstRgF (tRg1 (a.t K W))
  f δ := (a.fd δ).bin lrg1F
  ok K hk W δ := by
    cases h : a.fd δ with
    | ok x =>
      rw [M.ok_bin]
      unfold lrg1F
      split
      · split
        · exact ev_lstRg1 (a.okD hk h) (by assumption)
        · trivial
      · trivial
    | _ => trivial
def revF (x : D) : M S := match x with | .tup xs => .ok (.d (.tup xs.reverse)) | .lst xs => .ok (.own xs.reverse) | _ => .no
def SE.rev (a : SE Hy) : SE Hy where
  t K W := tRevU K (a.t K W)
  f δ := (a.fd δ).bin revF
  ok K hk W δ := by
    cases h : a.fd δ with
    | ok x =>
      rw [M.ok_bin]
      unfold revF
      split
      · exact ev_revT (a.okD hk h)
      · exact ev_revL (a.okD hk h)
      · trivial
    | _ => trivial
@[simp] theorem SE.rev_f (a : SE Hy) (δ : List S) : (SE.rev a).f δ = (a.fd δ).bin revF := (rfl)
@[simp] theorem revF_t {xs : List D} : revF (.tup xs) = .ok (.d (.tup xs.reverse)) := (rfl)
@[simp] theorem revF_l {xs : List D} : revF (.lst xs) = .ok (.own xs.reverse) := (rfl)
@[simp] theorem SE.lstRg2_f (a b : SE Hy) (δ : List S) : (SE.lstRg2 a b).f δ = (a.fd δ).bin fun x => (b.fd δ).bin fun y => lrg2F x y := (rfl)
@[simp] theorem SE.lstRg1_f (a : SE Hy) (δ : List S) : (SE.lstRg1 a).f δ = (a.fd δ).bin lrg1F := (rfl)
@[simp] theorem lrg2F_i {a b : Int} : lrg2F (.int a) (.int b) = if (b - a).toNat ≤ 16777216 then .ok (.own (rg a (b - a).toNat)) else .no := (rfl)
@[simp] theorem lrg1F_i {a : Int} : lrg1F (.int a) = if a ≤ 16777216 then .ok (.own (rg 0 a.toNat)) else .no := (rfl)
end
end Far
namespace Far
open PySem L2
section
variable {Hy : PySem.W.Frag → Prop}
def upF (x : D) : M S := match x with | .str z => if z.length ≤ 5592405 then .ok (.d (.str (Txt.upper z))) else .no | _ => .no
def SE.upper (a : SE Hy) : SE Hy where
  t K W := tM0 rUpper (a.t K W)
  f δ := (a.fd δ).bin upF
  ok K hk W δ := by
    cases h : a.fd δ with
    | ok x =>
      rw [M.ok_bin]
      unfold upF
      split
      · split
        · exact ev_upper (a.okD hk h) (by assumption)
        · trivial
      · trivial
    | _ => trivial
@[simp] theorem SE.upper_f (a : SE Hy) (δ : List S) : (SE.upper a).f δ = (a.fd δ).bin upF := (rfl)
end
end Far
namespace Far
open PySem L2
/-! An own list handed back: the frame that held it ends. -/
theorem OKG.handO {K : PySem.W.Frag} {He Ge H G : Hp} {σ : L2.St} {δ : List S} {i : Nat} {xs : List D} {v : V} (ok : OKG K He Ge H G σ δ) (hi : δ[i]? = some (.own xs)) (hv : σ[i]? = some (some v)) : OKG K He Ge H G (some v :: σ) (.own xs :: δ.set i .un) := by
  have hlt : i < δ.length := (List.getElem?_eq_some_iff.mp hi).1
  have un : ∀ (m : Nat) (s : S), (δ.set i .un)[m]? = some s → owned s = true → δ[m]? = some s ∧ m ≠ i := fun m s q1 q2 => by
    by_cases z : i = m
    · subst z; rw [List.getElem?_set_self hlt] at q1; cases q1; cases q2
    · rw [List.getElem?_set_ne z] at q1; exact ⟨q1, fun y => z y.symm⟩
  refine ⟨ok.ge, ok.gh, ok.he, ok.nc, fun j s hj => ?_, fun j k s t p hjk hj hk o1 o2 e1 e2 => ?_⟩
  · cases j with
    | zero =>
      obtain ⟨o, eo, p, vs, rfl, h⟩ := ok.sl i _ hi
      rw [hv] at eo
      cases hj; cases eo
      exact ⟨_, rfl, p, vs, rfl, h⟩
    | succ j =>
      rw [List.getElem?_cons_succ] at hj ⊢
      by_cases z : i = j
      · subst z
        rw [List.getElem?_set_self hlt] at hj; cases hj
        exact ⟨_, hv, trivial⟩
      · rw [List.getElem?_set_ne z] at hj
        exact ok.sl j s hj
  · cases j with
    | zero =>
      cases k with
      | zero => exact hjk rfl
      | succ k =>
        rw [List.getElem?_cons_succ] at hk e2
        obtain ⟨a, b⟩ := un k t hk o2
        have e1' : σ[i]? = some (some (.ref p)) := by
          rw [hv]; simpa using e1
        exact ok.ne i k _ t p (fun y => b y.symm) hi a rfl o2 e1' e2
    | succ j =>
      rw [List.getElem?_cons_succ] at hj e1
      obtain ⟨a, b⟩ := un j s hj o1
      cases k with
      | zero =>
        have e2' : σ[i]? = some (some (.ref p)) := by
          rw [hv]; simpa using e2
        exact ok.ne j i s _ p b a hi o1 rfl e1 e2'
      | succ k =>
        rw [List.getElem?_cons_succ] at hk e2
        obtain ⟨c, d⟩ := un k t hk o2
        exact ok.ne j k s t p (fun y => hjk (by rw [y])) a c o1 o2 e1 e2
theorem sd_retO {K : PySem.W.Frag} {δ : List S} {xs : List D} {W : WX} {N B Ct : List S → Prop} {Rt : S → List S → Prop} {Xc : List S → Addr → List (Str × D) → Prop} {i : Nat} (hi : δ[i]? = some (.own xs)) (r : ∀ d, Rt (.own xs) d) : SD K W (tRet (tVar i)) δ N Rt B Ct Xc := fun He Ge H σ Dn ⟨G, ok⟩ nx rt bk ct xx => by
  obtain ⟨o, eo, p, vs, rfl, _⟩ := ok.sl i _ hi
  exact ⟨_, eo, rt _ _ σ _ H ⟨G, ok.handO hi eo, trivial⟩ (r _)⟩
section
variable {Hy : PySem.W.Frag → Prop}
def SS.retO (i : Nat) : SS Hy where
  t _ _ := tRet (tVar i)
  f δ := match ow δ i with | .ok xs => .rt (.own xs) | _ => .no
  ok K hk W δ := by
    cases h : ow δ i with
    | ok xs => exact sdf_of fun n => sd_retO (ow_ok h) fun _ => .inl rfl
    | _ => exact sdf_of fun n => absurd rfl n
@[simp] theorem SS.retO_f (i : Nat) (δ : List S) : (SS.retO i : SS Hy).f δ = Fl.exn (ow δ i) fun xs => .rt (.own xs) := by
  have ne : ∀ c fs, ow δ i ≠ .ex c fs := fun c fs => by
    induction δ generalizing i with
    | nil => exact fun z => nomatch z
    | cons s l ih =>
      cases i with
      | zero => cases s <;> exact fun z => nomatch z
      | succ i => cases s <;> exact ih i
  show (match ow δ i with | .ok xs => Fl.rt (.own xs) | _ => .no) = _
  cases h : ow δ i with
  | ok xs => rfl
  | ex c fs => exact (ne c fs h).elim
  | no => rfl
end
end Far
/-! Functions that are run where nothing is being told of (no guard is on), so that lists can be told of. -/
namespace Far
open PySem L2 PySem.Spec PyProof.Rows
structure FnOkG (P : Program) (w : World) (K : PySem.W.Frag) (mg : Str → Option Value) (base : Heap) (CX : CXT) (k : Nat) (f : Addr) (fd : FuncData) (ps : List Str) (sp : Sp) : Prop where
  len : ∀ vs H Q E, sp vs H Q E → vs.length = ps.length
  run : ∀ (A : Around) (outer : List Env) (s : Shared) (H : Hp) (args : Args) (us : List Value) (vs : List V) (Q : VK) (E : XK), A.guards = some [] →
    Room k A → Env0 P w K mg base A outer s H → BindsTo s fd args (ps.zip us) → Vals vs us → sp vs H Q E → codeAny (model P w) A (.call (.ref f) args) (CR CX outer P w H s Q E) s
section
variable {CX : CXT} {P : Program} {w : World} {K : PySem.W.Frag} {mg : Str → Option Value} {base : Heap}
theorem FnOkG.imp {k : Nat} {f : Addr} {fd : FuncData} {ps : List Str} {sp sp' : Sp} (F : FnOkG P w K mg base CX k f fd ps sp) (h : ∀ vs H Q E, sp' vs H Q E → sp vs H Q E) : FnOkG P w K mg base CX k f fd ps sp' :=
  ⟨fun vs H Q E q => F.len vs H Q E (h vs H Q E q), fun A outer s H args us vs Q E g hr he hb hv hs => F.run A outer s H args us vs Q E g hr he hb hv (h vs H Q E hs)⟩
theorem fn_ofG {k : Nat} {f : Addr} {name qual : Str} {params : Arguments} {body : List Stmt} {scope : Scope} {dV kV doc pm cdv ct oc : Value} {an od : Option Addr} {osl : Array (Option Value)} {N ps : List Str} {sp : Sp}
    (lk : List.lookup f K = some { cls := oc, dict := od, data := .func (PySem.W.fnOf name qual params body scope dV kV doc pm an cdv ct), slots := osl }) (hcd : PySem.W.codeIn K cdv qual = true) (S : FnScope N ps scope)
    (len : ∀ vs H Q E, sp vs H Q E → vs.length = ps.length)
    (hbody : ∀ (A : Around) (outer : List Env) (s : Shared) (H : Hp) (vs : List V) (Q : VK) (E : XK), A.guards = some [] → Room k (A.deeper (envOfC qual scope s.heap.objs.size f cdv)) → sp vs H Q E →
      ∃ t, PSs (cxOf CX P w K mg base N qual scope f cdv A outer s H E) body t ∧ t { nx := fun _ H' => Q .non H', rt := Q } (L2.start N vs) H) :
    FnOkG P w K mg base CX (k + 1) f (PySem.W.fnOf name qual params body scope dV kV doc pm an cdv ct) ps sp := by
  refine ⟨len, fun A outer s H args us vs Q E g hr e0 hb r hsp => ?_⟩
  have hl := len vs H Q E hsp
  have KX := e0.mod.kin.keeps fun b o e => (e0.bs b o e).1
  have lim := Heap.NoLimit.keeps e0.mod.nolimit fun b o e => (e0.bs b o e).1
  refine codeAny_call_function hr.depth (KX f _ lk) rfl S.co S.gen rfl (PySem.W.codeRec_of KX hcd) (hb (model P w) A.in1 _ _ (wpAny_newFunctionEnv_cells S.kind ?_ fun env he s1 x => ?_))
  · intro x hy
    obtain ⟨n, v⟩ := x
    rcases S.par n (List.of_mem_zip hy).1 with q | q
    · exact Or.inl q
    · exact Or.inr ⟨q, PySem.W.cellsFrom_some scope.names (s.heap.objs.size + 1) [] (Or.inl q)⟩
  subst he
  refine ⟨lim.keeps x.toInCall.keep, codeAny_func ?_⟩
  obtain ⟨t, ht, hq⟩ := hbody A outer s H vs Q E g (hr.deeper _) hsp
  refine wpAny_mono (ht.run [] s1 (L2.start N vs) H { nx := fun _ H' => Q .non H', rt := Q } (inv_start S hr.hd e0 hl r x) hq) (fun fl s' hs => ?_) (fun e s' hs => hs)
  cases fl with
  | next =>
    obtain ⟨σ', H', J, q⟩ := hs
    exact ⟨.non, _, J.os, J.bare, J.base, J.hok, rfl, q⟩
  | ret u =>
    obtain ⟨v, σ', H', J, rv, q⟩ := hs
    exact ⟨_, _, J.os, J.bare, J.base, J.hok, rv, q⟩
  | brk =>
    obtain ⟨_, _, _, q⟩ := hs
    exact q.elim
  | cont =>
    obtain ⟨_, _, _, q⟩ := hs
    exact q.elim
theorem ok_defG {x qual : Str} {st : Stmt} {f : Addr} {fd : FuncData} {N ps : List Str} {k : Nat} {R : List D → Out → Prop} {t : TS} (F : Fun K x qual st f fd) (S : FnScope N ps (defScope st)) (hl : ∀ xs out, R xs out → xs.length = ps.length)
    (hd : ∀ (cdv : Value) (A : Around) (outer : List Env) (s : Shared) (H : Hp) (E : XK), Room k (A.deeper (envOfC qual (defScope st) s.heap.objs.size f cdv)) → A.guards = some [] → PSs (cxOf CX0 P w K mg base N qual (defScope st) f cdv A outer s H E).nox (defBody st) t)
    (hs : ∀ (E : WX) xs out, R xs out → SDef K E t (slots N.length xs) out) : FnOkG P w K mg base CX0 (k + 1) f fd ps (spD K R) := by
  obtain ⟨oc, od, kV, doc, pm, an, cdv, ct, osl, rfl, lk, hcd⟩ := F.ex
  exact fn_ofG lk hcd S (spD_len hl) fun A outer s H vs Q E g hr hsp => ⟨t, (hd cdv A outer s H E hr g).nox, body_run hsp (hs _)⟩
theorem law_callG {mb : Str → Option Value} {k : Nat} {fa a : Addr} {fd : FuncData} {x : Str} {sp : Sp} {s₁ : Shared} {vs : List Value} {ns : List Int}
    (KX : K.In s₁.heap) (hns : s₁.heap.Ns mainGlobals mg) (hb : s₁.heap.Ns builtinsNs mb) (hbb : ∀ x : Str, x ≠ Str.ofString "__name__" → mb x = bootBuiltins x) (hlim : s₁.heap.NoLimit) (hg : s₁.gens = #[])
    (ha : s₁.heap.get? a = some { cls := .type "list", data := .seq vs.toArray }) (hi : IntsAre vs ns) (hl : ns.length ≤ sizeLine) (hr : Room k callerA)
    (F : ∀ base : Heap, K.In base → base.Ns mainGlobals mg → FnOkG P w K mg base CX k fa fd [x] sp) (hbind : ∀ (s : Shared) (u : Value), BindsTo s fd ⟨[u], []⟩ [(x, u)])
    (hsp : ∀ H : Hp, Only H → SqL K H a (ns.map V.int) → sp [.ref a] H (fun v _ => v = .bl true) fun _ _ _ => False) (hCX : ∀ (H : Hp) (e : Value) (s' : Shared), CX [] H s₁ (fun _ _ _ => False) e s' → False) :
    codeAny (model P w) callerA (.call (.ref fa) ⟨[.ref a], []⟩) (fun r s' => r = .ok (.ret (.bool true)) ∧ OldK s₁.heap s'.heap ∧ s'.os = s₁.os ∧ AllBare s'.gens) s₁ := by
  have rv := vals_ints hi
  have lenV := hi.length
  have core : ∀ H : Hp, Only H → SqL K H a (ns.map V.int) → HOk P w H s₁.heap → (∀ b, H b ≠ none → b = a) → (H a ≠ none → List.lookup a K = none) → codeAny (model P w) callerA (.call (.ref fa) ⟨[.ref a], []⟩) (fun r s' => r = .ok (.ret (.bool true)) ∧ OldK s₁.heap s'.heap ∧ s'.os = s₁.os ∧ AllBare s'.gens) s₁ := fun H hO hS hok hA hK => by
    have base_of : ∀ {b : Addr} {o : Obj}, s₁.heap.get? b = some o → H b = none → (hidT s₁.heap H).get? b = some o := fun e n => hidT_get e n
    have noA : ∀ {b : Addr} {o : Obj} {es : Array DictEntry} {ep : Nat}, s₁.heap.get? b = some o → o.data = .dict es ep → H b = none := fun {b o es ep} e d => by
      cases q : H b with
      | none => rfl
      | some u =>
        have e' := hA b (by rw [q]; exact fun z => by cases z)
        subst e'
        rw [ha] at e
        cases e
        cases d
    have nsK : ∀ {b : Addr} {m : Str → Option Value}, s₁.heap.Ns b m → (hidT s₁.heap H).Ns b m := fun ⟨o, es, ep, e, d, r⟩ => ⟨o, es, ep, base_of e (noA e d), d, r⟩
    have hKb : K.In (hidT s₁.heap H) := fun b o e => base_of (KX b o e) (by
      cases q : H b with
      | none => rfl
      | some u =>
        have e' := hA b (by rw [q]; exact fun z => by cases z)
        subst e'
        have := hK (by rw [q]; exact fun z => by cases z)
        rw [this] at e
        cases e)
    have hM : Mod K mg (hidT s₁.heap H) := ⟨hKb, nsK hns, ⟨mb, nsK hb, hbb⟩, by
      obtain ⟨mc, h1, h2⟩ := hlim
      exact ⟨mc, nsK h1, h2⟩⟩
    have e0 : Env0 P w K mg (hidT s₁.heap H) callerA [] s₁ H := ⟨rfl, hM, fun b o e => of_hidT e, Nat.le_of_eq (hidT_size s₁.heap H), trivial, fun b hb => absurd hb (by simp [frs]), hok, AllBare.of_eq hg⟩
    refine codeAny_mono ((F (hidT s₁.heap H) hKb (nsK hns)).run callerA [] s₁ H ⟨[.ref a], []⟩ [.ref a] [.ref a] (fun v _ => v = .bl true) (fun _ _ _ => False) rfl hr e0 (hbind s₁ (.ref a)) (.cons rfl .nil) (hsp H hO hS)) fun r s' h => ?_
    cases r with
    | error e => exact (hCX H e s' h).elim
    | ok fl =>
      cases fl with
      | next => exact h.elim
      | brk => exact h.elim
      | cont => exact h.elim
      | ret u =>
        obtain ⟨v, H', os, bare, un, hok', r', rfl⟩ := h
        cases r'
        refine ⟨rfl, OldK.of_keep fun b o e => ?_, os, bare⟩
        cases q : H b with
        | none => exact un.keep b o e q (fun z => absurd z (by simp [frs])) (by simp)
        | some u =>
          rcases hO b with z | ⟨ob, vs', z⟩
          · rw [q] at z; cases z
          · have z2 := un.frzs b ob _ z
            have e1 := (hok b _ z).1
            have e2 := (hok' b _ z2).1
            rw [e] at e1
            cases e1
            exact e2
  cases hk : List.lookup a K with
  | none =>
    refine core (fun b => if b = a then some (.frz { cls := .type "list", data := .seq vs.toArray } (.lst (ns.map V.int))) else none) (fun b => ?_) (.inl (.inr ⟨_, if_pos rfl⟩)) (fun b u z => ?_) (fun b z => ?_) (fun _ => hk)
    · by_cases hb : b = a
      · exact .inr ⟨_, _, if_pos hb⟩
      · exact .inl (if_neg hb)
    · by_cases hb : b = a
      · have z := (if_pos hb).symm.trans z
        cases z
        subst hb
        exact ⟨ha, by rw [List.length_map]; exact hl, vs, 0, rv, ha⟩
      · have z := (if_neg hb).symm.trans z
        cases z
    · by_cases hb : b = a
      · exact hb
      · exact absurd (if_neg hb) z
  | some o =>
    have e := KX a o hk
    rw [ha] at e
    cases e
    exact core (fun _ => none) (fun _ => .inl rfl) (.inr ⟨_, vs.toArray, 0, hk, rfl, rfl, rfl, by rw [List.size_toArray, lenV]; exact hl, rv⟩) (fun b u z => by cases z) (fun b z => absurd rfl z) (fun z => absurd rfl z)
end
theorem walk_ofG {l : PySem.W.OpenLaw} {n k : Nat} {q : Program} {loose : List Str} {XP : (Str → Option Value) → Heap → Prop} {YP : World → Heap → Prop} {d : DefRec} {K : Params → PySem.W.Frag} {CX : World → CXT} {sp : World → Sp} {x : Str}
    (hn : l.most = some n) (hn2 : n ≤ sizeLine) (hdf : d.params.defaults = []) (hr : Room k callerA) (hY : ∀ (w : World) (h : Heap), YP w h → (K w.params).In h)
    (F : ∀ (w : World) (mg : Str → Option Value) (fa : Addr) (h : Heap), (K w.params).In h → h.Ns mainGlobals mg → mg d.name = some (.ref fa) →
      ∃ fd : FuncData, (∀ (s : Shared) (u : Value), BindsTo s fd ⟨[u], []⟩ [(x, u)]) ∧ ∀ base : Heap, (K w.params).In base → base.Ns mainGlobals mg → FnOkG l.prog w (K w.params) mg base (CX w) k fa fd [x] (sp w))
    (hsp : ∀ (w : World) (H : Hp) (a : Addr) (ns : List Int), ns.length ≤ n → Only H → SqL (K w.params) H a (ns.map V.int) → sp w [.ref a] H (fun v _ => v = .bl true) fun _ _ _ => False)
    (hCX : ∀ (w : World) (H : Hp) (s : Shared) (e : Value) (s' : Shared), CX w [] H s (fun _ _ _ => False) e s' → False) :
    PySem.W.WalkO q loose XP YP l.row.toRowW d [] (fun f vs => PySem.call f vs) :=
  Att.attach_call hn hdf fun w s₀ s₁ mg mb fa o pm cd doc a vs ns G Y ho hd hcd hmg hobj hints hlen hg => by
    have KX := hY w s₁.heap Y
    obtain ⟨fd, hb, hF⟩ := F w mg fa s₁.heap KX G.T.g hmg
    exact law_callG KX G.T.g G.T.b G.T.builtins G.T.nolimit hg hobj hints (Nat.le_trans hlen hn2) hr hF hb (fun H hO hS => hsp w H a ns hlen hO hS) fun H e s' => hCX w H s₁ e s'
section
variable {X : Cx} {CX : CXT} {k : Nat} {f : Addr} {fd : FuncData} {ps : List Str} {sp : Sp} {dvs : List V} {ds : List Value} {E : XK}
theorem run_fnG {pins : List (Addr × Obj)} {σ : L2.St} {H : Hp} {s : Shared} {Q : VK} {us : List Value} {vs : List V} (F : FnOkG X.prog X.w X.K X.mg X.base CX k f fd ps sp) (hg : X.A.guards = some []) (hr : Room k X.A) (hb : Binds X.K fd ps ds) (hd : Vals dvs ds) (hx : Passes CX X E) (I : Inv X pins σ H s) (r : Vals vs us)
    (h : sp (vs ++ dvs) H Q E) : wpAny (model X.prog X.w) X.A (PySem.call (.ref f) us) (EP X pins σ Q) X.xe s := by
  have r2 := r.append hd
  have hl : (us ++ ds).length = ps.length := by rw [← r2.length]; exact F.len _ _ _ _ h
  refine wpAny_call (codeAny_mono (F.run X.A X.stack s H ⟨us, []⟩ (us ++ ds) (vs ++ dvs) Q E hg hr I.env0 (hb s us I.kIn hl) r2 h) fun r s' hq => ?_)
  cases r with
  | error e => exact hx pins σ H s e s' I hq
  | ok fl =>
    cases fl with
    | next => exact hq.elim
    | brk => exact hq.elim
    | cont => exact hq.elim
    | ret u => exact I.after hq
theorem pe_callG {x : Str} {p pos : Pos} {e : Expr} {es : List Expr} {t : TA} (hgd : X.A.guards = some []) (F : FnOkG X.prog X.w X.K X.mg X.base CX k f fd ps sp) (hr : Room k X.A) (hg : Gl X x) (hm : X.mg x = some (.ref f)) (hk : PySem.W.keepIn X.K (.ref f) = true) (hb : Binds X.K fd ps ds) (hd : Vals dvs ds) (hx : Passes CX X E) (ha : PA X (e :: es) t)
    (hdb : (x == Str.ofString "__debug__") = false := by rfl) (he : starEach (e :: es) X.env = (false, eval e X.env) :: starEach es X.env := by rfl) (hpl : (backTo pos (starEach es X.env)).any (·.1) = false := by rfl) :
    PE X (.Call (.Name x p) (e :: es) [] pos) (tCall sp dvs E t) :=
  ⟨fun pins s σ H Q I h => wpAny_Call_Name_kw (ld_glob I hg hm (PySem.W.callWith_K I.ok.mod.kin hk (thn (ha.run pos pins s σ H (fun vs H1 => sp (vs ++ dvs) H1 Q E) I h) fun us s1 ⟨vs, H1, I1, r, q⟩ => ⟨I1.kIn, run_fnG F hgd hr hb hd hx I1 r q⟩) he hpl) hdb)⟩
/-- an expression that is never come to -/
theorem pe_dead {e : Expr} : PE X e (fun _ _ _ => False) := ⟨fun _ _ _ _ _ _ h => h.elim⟩
end
end Far
/-! repr of lists, tuples, numbers, None and truths, where no guard is on. -/
namespace Far
open PySem L2 PySem.Spec PyProof.Rows
mutual
def pyd : D → PyData
  | .non => .none
  | .bl b => .bool b
  | .int i => .int i
  | .str w => .str w
  | .lst xs => .list (pydL xs)
  | .tup xs => .tuple (pydL xs)
  | .dK kvs => .dict (pydK kvs)
  | _ => .none
def pydK : List (Key × D) → List (PyData × PyData)
  | [] => []
  | (.inl i, x) :: xs => (.int i, pyd x) :: pydK xs
  | (.inr w, x) :: xs => (.str w, pyd x) :: pydK xs
def pydL : List D → List PyData
  | [] => []
  | x :: xs => pyd x :: pydL xs
end
def atomD : D → Bool
  | .non => true | .bl _ => true | .int _ => true | .str _ => true | _ => false
mutual
def okd : D → Bool
  | .non => true
  | .bl _ => true
  | .int _ => true
  | .str _ => true
  | .lst xs => okdL xs
  | .tup xs => okdL xs
  | .dK kvs => kvs.all fun q => atomD q.2
  | _ => false
def okdL : List D → Bool
  | [] => true
  | x :: xs => okd x && okdL xs
end
section
variable {X : Cx} {pins : List (Addr × Obj)} {σ : L2.St} {H G : Hp} {s : Shared}
theorem readsAll_nil {h : Heap} {ds : List PyData} {as : List Addr} (r : ReadsAll h [] ds as) : ds = [] := by cases r; rfl
theorem reads_atom : ∀ {K : PySem.W.Frag} {h : Heap} {x : D} {v : V} {u : Value}, Rp K G x v → atomD x = true → RelV v u → Reads h u (pyd x) [] ∧ (pyd x).hasDict = false
  | _, _, .non, _, _, .non, _, r => by cases r; exact ⟨by unfold pyd; exact .none, by unfold pyd; rfl⟩
  | _, _, .bl b, _, _, .bl, _, r => by cases r; exact ⟨by unfold pyd; exact .bool b, by unfold pyd; rfl⟩
  | _, _, .int i, _, _, .int, _, r => by obtain ⟨t, rfl⟩ := r; exact ⟨by unfold pyd; exact .int i t, by unfold pyd; rfl⟩
  | _, _, .str w, _, _, .str, _, r => by obtain ⟨t, rfl⟩ := r; exact ⟨by unfold pyd; exact .str w t, by unfold pyd; rfl⟩
theorem readsK_of {P : Program} {w : World} {h : Heap} {K : PySem.W.Frag} : ∀ {kvs : List (Key × D)} {gs : List (Key × V)} {vs : List (Key × Value)} {es : List DictEntry}, RpK K G kvs gs → (kvs.all fun q => atomD q.2) = true → KV gs vs → Pairs (mixKind P w) es vs →
    ∃ as bs, ReadsAll h (es.map (·.key)) ((pydK kvs).map (·.1)) as ∧ ReadsAll h (es.map (·.val)) ((pydK kvs).map (·.2)) bs ∧ PyData.hasDictAll ((pydK kvs).map (·.1)) = false ∧ PyData.hasDictAll ((pydK kvs).map (·.2)) = false
  | [], _, _, _, .nil, _, .nil, .nil => ⟨_, _, .nil, .nil, by unfold pydK PyData.hasDictAll; rfl, by unfold pydK PyData.hasDictAll; rfl⟩
  | (k, x) :: xs, _, _, _, .cons hx hr, ok, .cons (b := b) r rs, .cons (e := e') hk hv hp => by
    rw [List.all_cons, Bool.and_eq_true] at ok
    obtain ⟨a2, b2, r1, r2, n1, n2⟩ := readsK_of (h := h) hr ok.2 rs hp
    obtain ⟨r3, n3⟩ := reads_atom (h := h) hx ok.1 (r.2)
    rw [← hv] at r3
    have e1 := r.1
    simp only at e1
    rw [← e1] at hk
    rcases keyIs_shape hk with ⟨i, t, ez, ek⟩ | ⟨w, t, ez, ek⟩
    · subst ez
      refine ⟨_, _, .cons (by show Reads h e'.key _ _; rw [ek]; exact .int i t) r1, .cons r3 r2, ?_, ?_⟩
      · unfold pydK; simp only [List.map_cons]; unfold PyData.hasDictAll; rw [n1]; rfl
      · unfold pydK; simp only [List.map_cons]; unfold PyData.hasDictAll; rw [n2, n3]; rfl
    · subst ez
      refine ⟨_, _, .cons (by show Reads h e'.key _ _; rw [ek]; exact .str w t) r1, .cons r3 r2, ?_, ?_⟩
      · unfold pydK; simp only [List.map_cons]; unfold PyData.hasDictAll; rw [n1]; rfl
      · unfold pydK; simp only [List.map_cons]; unfold PyData.hasDictAll; rw [n2, n3]; rfl
/-- a dict's entries as they are told -/
theorem entK_of (I : Inv X pins σ H s) (e : Ex G H) {kvs : List (Key × D)} {gs : List (Key × V)} {a : Addr} (hp : G a = some (.dK gs)) (hr : RpK X.K G kvs gs) (ok : (kvs.all fun q => atomD q.2) = true) (hs : (PyData.dict (pydK kvs)).showable = true)
    (hz : (PyData.dict (pydK kvs)).shown.length ≤ sizeLine) : ∃ o es n as, s.heap.get? a = some o ∧ o.cls = .type "dict" ∧ o.data = .dict es n ∧ (a == sysModules) = false ∧ Reads s.heap (.ref a) (.dict (pydK kvs)) as ∧
    ∃ bs, ReadAtMost s.heap (PyData.depthKv (pydK kvs)) bs ∧ a ∉ bs ∧ ReprEntriesK X.prog X.w bs s.heap (PyData.depthKv (pydK kvs)) es.toList (PyData.shownKv (pydK kvs)) := by
  obtain ⟨_, hsys, vs, rel, o, es, ep, ho, hx, hd, _, hps, _⟩ := dk_of I.hok (e _ _ hp)
  obtain ⟨as, bs, r1, r2, n1, n2⟩ := readsK_of (h := s.heap) hr ok rel hps
  have r : Reads s.heap (.ref a) (.dict (pydK kvs)) _ := .dict ho hx.1 hd r1 r2
  have hz' : (dictText (PyData.shownKv (pydK kvs))).length ≤ sizeLine := by simpa only [PyData.shown] using hz
  obtain ⟨hs1, hs2⟩ := PyData.showableKv_split (pydK kvs) (by simpa [PyData.showable] using hs)
  obtain ⟨b1, hb1, k1⟩ := ReprAllK.of_readsAll (prog := X.prog) (w := X.w) r1 hs1 (fun z => by rw [n1] at z; cases z) fun t ht => by
    obtain ⟨p, hp, hl⟩ := PyData.shownKv_key_le _ t ht
    exact Nat.le_trans hl (Nat.le_trans (dictText_mem_le hp) hz')
  obtain ⟨b2, hb2, k2⟩ := ReprAllK.of_readsAll (prog := X.prog) (w := X.w) r2 hs2 (fun z => by rw [n2] at z; cases z) fun t ht => by
    obtain ⟨p, hp, hl⟩ := PyData.shownKv_val_le _ t ht
    exact Nat.le_trans hl (Nat.le_trans (dictText_mem_le hp) hz')
  have hb : ReadAtMost s.heap (PyData.depthKv (pydK kvs)) (b1 ++ b2) := (hb1.mono (PyData.depthAll_keys_le _)).append (hb2.mono (PyData.depthAll_vals_le _))
  refine ⟨o, es, ep, _, ho, hx.1, hd, hsys, r, b1 ++ b2, hb, not_mem_of_deeper r (by simp only [PyData.depth]; omega) hb, ?_⟩
  rw [PyData.shownKv_eq]
  exact ReprEntriesK.of_two es.toList _ _ (k1.more_le (fun b hb => List.mem_append_left _ hb) (PyData.depthAll_keys_le _)) (k2.more_le (fun b hb => List.mem_append_right _ hb) (PyData.depthAll_vals_le _))
mutual
theorem rk_of (I : Inv X pins σ H s) (e : Ex G H) : ∀ {x : D} {v : V} {u : Value}, Rp X.K G x v → okd x = true → RelV v u → (pyd x).showable = true → (pyd x).shown.length ≤ sizeLine →
    ∃ as bs, Reads s.heap u (pyd x) as ∧ ReadAtMost s.heap (pyd x).depth bs ∧ ReprK X.prog X.w bs s.heap (pyd x).depth u (pyd x).shown
  | .non, _, _, .non, _, r, _, _ => by cases r; exact ⟨_, [], by unfold pyd; exact .none, (fun _ h => nomatch h), by unfold pyd; simp only [PyData.shown]; exact .of_is ReprIs.none _ _ _⟩
  | .bl b, _, _, .bl, _, r, _, _ => by cases r; exact ⟨_, [], by unfold pyd; exact .bool b, (fun _ h => nomatch h), by unfold pyd; simp only [PyData.shown]; exact .of_is (ReprIs.bool b) _ _ _⟩
  | .int i, _, _, .int, _, r, hs, _ => by obtain ⟨t, rfl⟩ := r; exact ⟨_, [], by unfold pyd; exact .int i t, (fun _ h => nomatch h), by unfold pyd at hs ⊢; simp only [PyData.shown]; exact .of_is (ReprIs.int t (by simpa [PyData.showable] using hs)) _ _ _⟩
  | .str w, _, _, .str, _, r, _, hz => by obtain ⟨t, rfl⟩ := r; exact ⟨_, [], by unfold pyd; exact .str w t, (fun _ h => nomatch h), by unfold pyd at hz ⊢; simp only [PyData.shown]; exact .of_is (ReprIs.str w t (by simpa only [PyData.shown] using hz)) _ _ _⟩
  | .lst xs, _, _, .lst (a := a) hp hr, ok, r, hs, hz => by
    cases r
    unfold okd at ok
    unfold pyd at hs hz ⊢
    obtain ⟨its, rv, ⟨o, n, ho, hc, hdn, hd⟩, hlen⟩ := I.list (SqL.of (e _ _ hp))
    have hz' : (listText (PyData.shownAll (pydL xs))).length ≤ sizeLine := by simpa only [PyData.shown] using hz
    obtain ⟨as, bs, ra, hb, hk⟩ := rkL_of I e hr ok rv (by simpa [PyData.showable] using hs) fun t ht => Nat.le_trans (listText_mem_le ht) hz'
    have r : Reads s.heap (.ref a) (.list (pydL xs)) _ := .list ho hc hd (by simpa using ra)
    have hna : a ∉ bs := not_mem_of_deeper r (by simp only [PyData.depth]; omega) hb
    refine ⟨_, a :: bs, r, ReadAtMost.cons r (by simp only [PyData.depth]; omega) hb, ?_⟩
    simp only [PyData.depth, PyData.shown]
    cases its with
    | nil =>
      have z : pydL xs = [] := readsAll_nil ra
      rw [z]
      simp only [PyData.shownAll, listText_nil]
      exact ReprK.listEmpty ho hc hd
    | cons x l => exact ReprK.list ho hc hd hna (by simpa using hk.length_eq) (fun i y e => hk.item i y (by simpa using e))
  | .tup xs, _, _, .tup (a := a) hp hr, ok, r, hs, hz => by
    cases r
    unfold okd at ok
    unfold pyd at hs hz ⊢
    obtain ⟨its, rv, ⟨o, ho, hc, n, hd⟩, hlen⟩ := I.tuple (e.t hp.t)
    have hz' : (tupleText (PyData.shownAll (pydL xs))).length ≤ sizeLine := by simpa only [PyData.shown] using hz
    obtain ⟨as, bs, ra, hb, hk⟩ := rkL_of I e hr ok rv (by simpa [PyData.showable] using hs) fun t ht => Nat.le_trans (tupleText_mem_le ht) hz'
    have r : Reads s.heap (.ref a) (.tuple (pydL xs)) _ := .tuple ho hc hd (by simpa using ra)
    have hna : a ∉ bs := not_mem_of_deeper r (by simp only [PyData.depth]; omega) hb
    refine ⟨_, a :: bs, r, ReadAtMost.cons r (by simp only [PyData.depth]; omega) hb, ?_⟩
    simp only [PyData.depth, PyData.shown]
    exact ReprK.tuple ho hc hd hna (by simpa using hk)
  | .dK kvs, _, _, .dK (a := a) hp hr, ok, r, hs, hz => by
    cases r
    unfold okd at ok
    unfold pyd at hs hz ⊢
    obtain ⟨o, es, n, as, ho, hc, hd, hsys, r, bs, hb, hna, hE⟩ := entK_of I e hp hr ok hs hz
    refine ⟨as, a :: bs, r, ReadAtMost.cons r (by simp only [PyData.depth]; omega) hb, ?_⟩
    simp only [PyData.depth, PyData.shown]
    exact ReprK.dict ho hc hd hsys hna hE
  | .ty _, _, _, _, ok, _, _, _ => by unfold okd at ok; cases ok
  | .cls _, _, _, _, ok, _, _, _ => by unfold okd at ok; cases ok
  | .utp _, _, _, _, ok, _, _, _ => by unfold okd at ok; cases ok
  | .scr _, _, _, _, ok, _, _, _ => by unfold okd at ok; cases ok
  | .ins _ _, _, _, _, ok, _, _, _ => by unfold okd at ok; cases ok
  | .exc _ _, _, _, _, ok, _, _, _ => by unfold okd at ok; cases ok
  | .dO _, _, _, _, ok, _, _, _ => by unfold okd at ok; cases ok
  | .lam _ _ _ _ _, _, _, _, ok, _, _, _ => by unfold okd at ok; cases ok
theorem rkL_of (I : Inv X pins σ H s) (e : Ex G H) : ∀ {xs : List D} {vs : List V} {us : List Value}, RpL X.K G xs vs → okdL xs = true → Vals vs us → PyData.showableAll (pydL xs) = true → (∀ t ∈ PyData.shownAll (pydL xs), t.length ≤ sizeLine) →
    ∃ as bs, ReadsAll s.heap us (pydL xs) as ∧ ReadAtMost s.heap (PyData.depthAll (pydL xs)) bs ∧ ReprAllK X.prog X.w bs s.heap (PyData.depthAll (pydL xs)) us (PyData.shownAll (pydL xs))
  | [], _, _, .nil, _, .nil, _, _ => ⟨_, [], .nil, (fun _ h => nomatch h), by unfold pydL; simp only [PyData.shownAll]; exact .nil⟩
  | x :: xs, _, _, .cons hx hr, ok, .cons r rs, hs, hz => by
    unfold okdL at ok
    rw [Bool.and_eq_true] at ok
    unfold pydL at hs hz ⊢
    have hs' : (pyd x).showable = true ∧ PyData.showableAll (pydL xs) = true := by simpa [PyData.showableAll] using hs
    obtain ⟨a1, b1, r1, hb1, k1⟩ := rk_of I e hx ok.1 r hs'.1 (hz _ (by simp only [PyData.shownAll]; exact List.mem_cons_self ..))
    obtain ⟨a2, b2, r2, hb2, k2⟩ := rkL_of I e hr ok.2 rs hs'.2 fun t ht => hz t (by simp only [PyData.shownAll]; exact List.mem_cons_of_mem _ ht)
    refine ⟨_, b1 ++ b2, .cons r1 r2, ?_, ?_⟩
    · simp only [PyData.depthAll]
      exact (hb1.mono (Nat.le_max_left _ _)).append (hb2.mono (Nat.le_max_right _ _))
    · simp only [PyData.depthAll, PyData.shownAll]
      exact .cons ((k1.more fun b hb => List.mem_append_left _ hb).level_le (Nat.le_max_left _ _)) (k2.more_le (fun b hb => List.mem_append_right _ hb) (Nat.le_max_right _ _))
end
/-- how an object is told of by its own method -/
theorem shows_of (I : Inv X pins σ H s) (e : Ex G H) {x : D} {a : Addr} (hr : Rp X.K G x (.ref a)) (ok : okd x = true) (hs : (pyd x).showable = true) (hz : (pyd x).shown.length ≤ sizeLine) : ∃ T idr, ShowsBy X.prog X.w s.heap a (pyd x) T idr := by
  cases hr with
  | lst hp hr =>
    rename_i vs xs
    unfold okd at ok
    unfold pyd at hs hz ⊢
    obtain ⟨its, rv, ⟨o, n, ho, hc, hdn, hd⟩, hlen⟩ := I.list (SqL.of (e _ _ hp))
    have hz' : (listText (PyData.shownAll (pydL xs))).length ≤ sizeLine := by simpa only [PyData.shown] using hz
    obtain ⟨as, bs, ra, hb, hk⟩ := rkL_of I e hr ok rv (by simpa [PyData.showable] using hs) fun t ht => Nat.le_trans (listText_mem_le ht) hz'
    have r : Reads s.heap (.ref a) (.list (pydL xs)) _ := .list ho hc hd (by simpa using ra)
    have hna : a ∉ bs := not_mem_of_deeper r (by simp only [PyData.depth]; omega) hb
    refine ⟨"list", "list.__repr__", F.slot_list_repr.toG, F.slot_list_str, F.slot_list_format, fun s hk0 => ⟨o, hk0 _ _ ho, hc⟩, fun A E s Q hg hu hk0 hQ => ?_⟩
    simp only [PyData.depth] at hu
    simp only [PyData.shown] at hQ
    cases its with
    | nil =>
      have z : pydL xs = [] := readsAll_nil ra
      rw [z] at hQ
      simp only [PyData.shownAll, listText_nil] at hQ
      exact call_list_repr_empty ⟨o, hk0 _ _ ho, hc⟩ (hk0 _ _ ho) hd (hQ s.heap _ _ fun _ _ e => e)
    | cons x l => exact call_list_reprK ho hc hd hna (by simpa using hk.length_eq) (fun i y e => hk.item i y (by simpa using e)) hg (fun b _ => Clear.nil b) hu hk0 hQ hz'
  | tup hp hr =>
    rename_i vs xs
    unfold okd at ok
    unfold pyd at hs hz ⊢
    obtain ⟨its, rv, ⟨o, ho, hc, n, hd⟩, hlen⟩ := I.tuple (e.t hp.t)
    have hz' : (tupleText (PyData.shownAll (pydL xs))).length ≤ sizeLine := by simpa only [PyData.shown] using hz
    obtain ⟨as, bs, ra, hb, hk⟩ := rkL_of I e hr ok rv (by simpa [PyData.showable] using hs) fun t ht => Nat.le_trans (tupleText_mem_le ht) hz'
    have r : Reads s.heap (.ref a) (.tuple (pydL xs)) _ := .tuple ho hc hd (by simpa using ra)
    have hna : a ∉ bs := not_mem_of_deeper r (by simp only [PyData.depth]; omega) hb
    refine ⟨"tuple", "tuple.__repr__", F.slot_tuple_repr, F.slot_tuple_str, F.slot_tuple_format, fun s hk0 => ⟨o, hk0 _ _ ho, hc⟩, fun A E s Q hg hu hk0 hQ => ?_⟩
    simp only [PyData.depth] at hu
    simp only [PyData.shown] at hQ
    exact call_tuple_reprK ho hc hd hna (by simpa using hk) hg (fun b _ => Clear.nil b) hu hk0 hQ hz'
  | dK hp hr =>
    rename_i kvs vs
    unfold okd at ok
    unfold pyd at hs hz ⊢
    obtain ⟨o, es, n, as, ho, hc, hd, hsys, r, bs, hb, hna, hE⟩ := entK_of I e hp hr ok hs hz
    have hz' : (dictText (PyData.shownKv (pydK kvs))).length ≤ sizeLine := by simpa only [PyData.shown] using hz
    refine ⟨"dict", "dict.__repr__", F.slot_dict_repr, F.slot_dict_str, F.slot_dict_format, fun s hk0 => ⟨o, hk0 _ _ ho, hc⟩, fun A E s Q hg hu hk0 hQ => ?_⟩
    simp only [PyData.depth] at hu
    simp only [PyData.shown] at hQ
    exact call_dict_reprK ho hc hd hsys hna hE hg (fun b _ => Clear.nil b) hu hk0 hQ hz'
  | _ => unfold okd at ok; cases ok
/-- what may be told of: small enough, and not too deep -/
def okR (x : D) : Bool := okd x && (pyd x).showable && decide ((pyd x).shown.length ≤ sizeLine) && decide ((pyd x).depth ≤ 100)
def rRepr (K : PySem.W.Frag) : List V → Hp → VK → Prop := fun xs H Q => ∃ (G : Hp) (x : D) (v : V), xs = [v] ∧ Ex G H ∧ Rp K G x v ∧ okR x = true ∧ Q (.str (pyd x).shown) H
theorem call_reprU (hg : X.A.guards = some []) (hu : X.A.units + 200 < cLine) : CallR X (.builtin "repr") (rRepr X.K) := by
  intro pins s σ H xs us Q I r h
  obtain ⟨G, x, v, rfl, e0, rx, ok, q⟩ := h
  unfold okR at ok
  simp only [Bool.and_eq_true, decide_eq_true_eq] at ok
  obtain ⟨⟨⟨ok1, ok2⟩, ok3⟩, ok4⟩ := ok
  obtain ⟨u, rfl, ru⟩ := vals1 r
  have fin : ∀ (h' : Heap) (t : Tok) (tk : Nat), (∀ (b : Addr) (o : Obj), s.heap.get? b = some o → h'.get? b = some o) → EP X pins σ Q (.str (pyd x).shown t) { s with heap := h', toks := tk } := fun h' t tk hk => ⟨.str (pyd x).shown, H, I.kept hk, ⟨t, rfl⟩, q⟩
  have main : ∀ a, u = .ref a → wpAny (model X.prog X.w) X.A (call (.builtin "repr") [u]) (EP X pins σ Q) X.xe s := fun a e => by
    subst e
    obtain ⟨b, eb⟩ : ∃ b, v = .ref b := by
      cases v <;> first | exact ⟨_, rfl⟩ | (obtain ⟨_, z⟩ := ru; exact nomatch z) | exact nomatch ru
    subst eb
    cases ru
    obtain ⟨T, idr, S⟩ := shows_of I e0 rx ok1 ok2 ok3
    exact call_repr_slot (by omega) (S.typeIs s fun _ _ z => z) S.slotRepr (S.call X.A.in1 X.xe s _ hg (by show X.A.units + 1 + (pyd x).depth < cLine; omega) (fun _ _ z => z) fun h' u tk hk => ⟨_, _, rfl, fin h' u tk hk⟩)
  cases rx with
  | lst hp hr => exact main _ ru
  | tup hp hr => exact main _ ru
  | dK hp hr => exact main _ ru
  | int =>
    obtain ⟨t, rfl⟩ := ru
    refine P.repr_of_int (by simpa [pyd, PyData.showable] using ok2) ?_
    have := fin s.heap s.toks (s.toks + 1) fun _ _ z => z
    simpa [pyd, PyData.shown] using this
  | non =>
    cases ru
    refine call_repr_gives (typeIs_none s) PySem.F.slot_NoneType_repr PySem.F.entry_NoneType_repr (PySem.F.args_NoneType_repr_1 Value.none) gives_none_repr ?_ (Eq.refl _) (of_decide_eq_true (id (Eq.refl true)))
    have := fin s.heap s.toks (s.toks + 1) fun _ _ z => z
    simpa [pyd, PyData.shown] using this
  | bl =>
    rename_i b
    cases ru
    refine call_repr_gives (PySem.typeIs_bool s b) PySem.F.slot_bool_repr PySem.F.entry_bool_repr (PySem.F.args_bool_repr_1 (Value.bool b)) (gives_bool_repr b) ?_ (Eq.refl _) (by cases b <;> exact of_decide_eq_true (id (Eq.refl true)))
    have := fin s.heap s.toks (s.toks + 1) fun _ _ z => z
    simpa [pyd, PyData.shown] using this
  | str =>
    rename_i w
    obtain ⟨t, rfl⟩ := ru
    refine call_repr_gives (typeIs_str s w t) PySem.F.slot_str_repr PySem.F.entry_str_repr (PySem.F.args_str_repr_1 (Value.str w t)) (gives_str_repr w t) ?_ (Eq.refl _) (by simpa [pyd, PyData.shown] using ok3)
    have := fin s.heap s.toks (s.toks + 1) fun _ _ z => z
    simpa [pyd, PyData.shown] using this
  | _ => unfold okd at ok1; cases ok1
end
end Far
namespace Far
open PySem L2
/-! repr, in a function that is run where no guard is on. -/
theorem _root_.PySem.L2.Room.rep {k : Nat} {A : Around} (h : Room k A) : A.units + 200 < cLine := by have := h.un; omega
def reprF : List D → Option S
  | [x] => if okR x = true then some (.d (.str (pyd x).shown)) else none
  | _ => none
def bRepr {Hy : PySem.W.Frag → Prop} : OB Hy := ⟨fun K => rRepr K, reprF, fun K hk xs s h => by
  unfold reprF at h
  split at h
  · split at h
    · rename_i x z
      cases h
      intro He Ge H G σ δ vs ok r Q w
      cases r with
      | cons r1 r2 => cases r2; exact ⟨G, x, _, rfl, ok.gh, r1, z, w _ _ (done ok .str)⟩
    · cases h
  · cases h⟩
@[simp] theorem bRepr_f {Hy : PySem.W.Frag → Prop} : (bRepr : OB Hy).f = reprF := (rfl)
theorem reprF_ok {x : D} (h : okR x = true) : reprF [x] = some (.d (.str (pyd x).shown)) := if_pos h
theorem neF2_text (w : Str) : neF2 (.str w) (.str w) = some (.d (.bl false)) := by
  simp [neF2]
  show some (decide (w = w)) = some true
  simp
theorem okR_int {i : Int} (h : i.natAbs.log2 < 1920) : okR (.int i) = true := by
  have e : pyd (.int i) = .int i := by unfold pyd; rfl
  unfold okR
  rw [e]
  have h1 : okd (.int i) = true := by unfold okd; rfl
  have h2 : (PyData.int i).showable = true := by unfold PyData.showable; exact decide_eq_true h
  have h3 : (PyData.int i).shown.length ≤ sizeLine := by unfold PyData.shown; exact int_text_fits h
  have h4 : (PyData.int i).depth ≤ 100 := by unfold PyData.depth; exact Nat.zero_le _
  rw [h1, h2, decide_eq_true h3, decide_eq_true h4]; rfl
/-- what is never come to -/
def SE.dead {Hy : PySem.W.Frag → Prop} : SE Hy := ⟨fun _ _ => fun _ _ _ => False, fun _ => .no, fun _ _ _ _ => trivial⟩
@[simp] theorem SE.dead_f {Hy : PySem.W.Frag → Prop} {δ : List S} : (SE.dead : SE Hy).f δ = .no := (rfl)
theorem okR_non : okR .non = true := by decide +kernel
theorem okR_bls : ∀ a b c : Bool, okR (.lst [.bl a, .bl b, .bl c]) = true := by decide +kernel
theorem okR_bl2 : ∀ a b : Bool, okR (.lst [.bl a, .bl b]) = true := by decide +kernel
end Far
/-! a tuple taken no times -/
namespace Far
open PySem L2 PySem.Spec PyProof.Rows
section
open AutoSeq1 in
theorem tuple_mul0 (l : Addr) (items : Array Value) (n : Nat) (dd : Option Addr) (sl : Array (Option Value)) (u : Tok) (he : items.isEmpty = false) :
    Meets (Builtin.«tuple.__mul__» ⟨[.ref l, .int 0 u], []⟩) (fun _ R s => s.heap.get? l = some { cls := .type "tuple", dict := dd, data := .seq items n, slots := sl } ∧ R (.ok (.ret (Value.ref s.heap.objs.size))) { s with heap := s.heap.push { cls := .type "tuple", data := .seq #[] } }) :=
  .of_wp fun prog w A R s h => by
    obtain ⟨hp, g, d, tk, os⟩ := s
    obtain ⟨hl, h⟩ := h
    have f1 := AutoSeq1.idx_int
    have c1 : (items.isEmpty || ((0 : Int) == 1)) = false := by rw [he]; rfl
    have c2 : (decide ((0 : Int) ≤ 0) || items.isEmpty) = true := by simp
    wp_walk using wpAny_loadPart' hl
    exact ⟨_, rfl, h⟩
def rRep0 (K : PySem.W.Frag) : R2 := fun x y H Q => ∃ l xs, x = .ref l ∧ y = .int 0 ∧ SqT K H l xs ∧ xs ≠ [] ∧ NewT H [] Q
theorem op_rep0 {X : Cx} : OpR X (binaryOp .Mult) (rRep0 X.K) := by
  intro pins s σ H x y v u Q I rx ry h
  obtain ⟨l, xs, rfl, rfl, hT, hne, q⟩ := h
  cases rx
  obtain ⟨t, rfl⟩ := ry
  obtain ⟨its, r, ⟨⟨cls, dd, data, sl⟩, ho, hc, n, hd⟩, hs⟩ := I.tuple hT
  simp only at hc hd
  subst hc hd
  have hle : its.length = xs.length := r.length.symm
  have hn : its ≠ [] := fun e => hne (by
    rw [e] at hle
    exact List.eq_nil_of_length_eq_zero hle.symm)
  have hi : its.toArray.isEmpty = false := by
    cases its with
    | nil => exact absurd rfl hn
    | cons a b => rfl
  refine wpAny_binaryOp_repeat_ref (T := "tuple") (U := "int") (by decide) ⟨_, ho, rfl⟩ (fun s' => typeIs_int s' 0 t) noFill_tuple_mul F.fills_int_mul F.slot_int_rmul repeat_tuple F.slot_int_index.lookup
    (call_meets F.slot_int_rmul (typeIs_int s 0 t) F.entry_int_rmul (F.args_int_rmul_2 _ _) (int_rmul_tuple 0 t l its.toArray n dd sl)
      ⟨ho, rfl, ⟨_, ho, rfl⟩, call_meets F.slot_tuple_mul ⟨_, ho, rfl⟩ F.entry_tuple_mul (F.args_tuple_mul_2 _ _) (tuple_mul0 l its.toArray n dd sl t hi) ⟨ho, ?_⟩⟩)
  refine ⟨.ref s.heap.objs.size, _, I.laid (t' := s.toks) (o := .frz _ (.tup [])) (fun b ob q => Heap.get?_push_of_some _ q) (Nat.le_refl _) ⟨Heap.get?_push_size _ rfl, Nat.zero_le _, _, .nil, IsTup.new _ _⟩, rfl, ?_⟩
  exact q _ _ (I.hok.fresh (Nat.le_refl _)) rfl rfl
end
def rMulZ (K : PySem.W.Frag) : R2 := fun x y H Q => rMulU K x y H Q ∨ rRep0 K x y H Q
theorem op_mulZ {X : Cx} : OpR X (binaryOp .Mult) (rMulZ X.K) := OpR.or op_mulU op_rep0
theorem mul_tup0 {K : PySem.W.Frag} {xs : List D} (h : xs ≠ []) : RV2 K (rMulZ K) (.tup xs) (.int 0) (.d (.tup [])) := .inr (by
  intro He Ge H G σ δ v u ok rv ru Q q
  cases ru
  cases rv with
  | tup hl r => exact ⟨_, _, rfl, rfl, ok.gh.t hl.t, (fun e => h (by rw [e] at r; cases r; rfl)), fun p o hp hc hd => q _ _ (doneT ok hp hc hd .nil)⟩)
noncomputable def mulZF (x y : D) : Option S := match x, y with
  | .tup (a :: r), .int 0 => some (.d (.tup []))
  | x, y => mulF x y
noncomputable def oMulZ : O2 where
  r K := rMulZ K
  f := mulZF
  ok K x y s h := by
    unfold mulZF at h
    split at h
    · cases h; exact mul_tup0 (by simp)
    · exact fun He Ge H G σ δ v u ok rv ru Q q => .inl (oMul.ok K _ _ s h He Ge H G σ δ v u ok rv ru Q q)
@[simp] theorem oMulZ_f : oMulZ.f = mulZF := (rfl)
theorem mulZF_0 {a : D} : mulZF (.tup [a]) (.int 0) = some (.d (.tup [])) := (rfl)
theorem mulZF_s {a : D} {k : Int} (h : 0 < k) (h2 : k ≤ 1000000) : mulZF (.tup [a]) (.int k) = some (.d (.tup (List.replicate k.toNat a))) := by
  have e : mulZF (.tup [a]) (.int k) = mulF (.tup [a]) (.int k) := by
    unfold mulZF
    split
    · rename_i q1 q2; cases q2; omega
    · rfl
  rw [e, mulF_tup (by simp) (by omega) h2 (by simp; omega)]
  simp
end Far
/-! min(xs, key=f): whole numbers, f a function of the program whose answers are pairs of whole numbers. -/
namespace Far
open PySem L2 PyProof.Rows
/-- one deeper, within a builtin -/
abbrev Cx1 (X : Cx) : Cx := { X with A := X.A.in1, xe := fun _ _ => False }
section
variable {X : Cx} {pins : List (Addr × Obj)} {σ : L2.St} {H : Hp} {s : Shared}
theorem inv1 (I : Inv X pins σ H s) : Inv (Cx1 X) pins σ H s :=
  ⟨⟨I.ok.mod, I.ok.kind, I.ok.glob, I.ok.blt, I.ok.above, I.ok.inj, I.ok.has, I.ok.cab, I.ok.hd, I.ok.frames, I.ok.stk, I.ok.exf, I.ok.bs, I.ok.bsz, I.ok.noex, I.ok.exfs, I.ok.funs, I.ok.frf⟩,
    I.os, I.bare, I.base, I.loc, I.cell, I.free, I.freeC, I.pin, I.hok, I.len⟩
theorem inv0 (ok : X.Ok) (I : Inv (Cx1 X) pins σ H s) : Inv X pins σ H s :=
  ⟨ok, I.os, I.bare, I.base, I.loc, I.cell, I.free, I.freeC, I.pin, I.hok, I.len⟩
end
/-- the pair (a, b) is less than (c, d) -/
def pairLt (a b c d : Int) : Bool := decide (a < c ∨ (a = c ∧ b < d))
def kLoop (K : PySem.W.Frag) (sp : Sp) (E : XK) (a : Addr) (all : List V) : List Int → Int → Addr → Int → Int → Hp → VK → Prop
  | [], b, _, _, _, H, Q => SqL K H a all ∧ Q (.int b) H
  | n :: r, b, tb, k1, k2, H, Q => SqL K H a all ∧ sp [.int n] H (fun v H1 => ∃ t j1 j2, v = .ref t ∧ SqP K H1 t [.int j1, .int j2] ∧ SqP K H1 tb [.int k1, .int k2] ∧
      if pairLt j1 j2 k1 k2 then kLoop K sp E a all r n t j1 j2 H1 Q else kLoop K sp E a all r b tb k1 k2 H1 Q) E
def rMinK (K : PySem.W.Frag) (sp : Sp) (E : XK) (f : Addr) : List V → List V → Hp → VK → Prop := fun xs zs H Q => ∃ (a : Addr) (n : Int) (r : List Int), xs = [.ref a] ∧ zs = [.ref f] ∧ SqL K H a ((n :: r).map V.int) ∧
  sp [.int n] H (fun v H1 => ∃ t k1 k2, v = .ref t ∧ SqP K H1 t [.int k1, .int k2] ∧ kLoop K sp E a ((n :: r).map V.int) r n t k1 k2 H1 Q) E
section
variable {X : Cx} {CX : CXT} {k : Nat} {f : Addr} {fd : FuncData} {ps : List Str} {sp : Sp} {E : XK} {a it S : Addr} {all : List Int}
theorem pairReads {pins : List (Addr × Obj)} {σ : L2.St} {H : Hp} {s : Shared} {t : Addr} {i j : Int} (I : Inv X pins σ H s) (h : SqP X.K H t [.int i, .int j]) : Reads s.heap (.ref t) (.tuple [.int i, .int j]) [] := by
  obtain ⟨its, rv, hp, _⟩ := I.tuple h.t
  obtain ⟨u1, u2, rfl, ⟨t1, rfl⟩, ⟨t2, rfl⟩⟩ := vals2 rv
  obtain ⟨o, ho, hc, n, hd⟩ := hp
  exact .tuple ho hc hd (.cons (.int _ _) (.cons (.int _ _) .nil))
theorem minK_loop {pins : List (Addr × Obj)} {σ : L2.St} {Q : VK} {R : Result → Shared → Prop}
    (F : FnOk X.prog X.w X.K X.mg X.base CX0 k f fd ps sp) (hr : Room (k + 1) X.A) (hb : Binds X.K fd ps []) (hai : a ≠ it) (hSi : S ≠ it)
    (hR : ∀ u s', EP X pins σ Q u s' → R (.ok (.ret u)) s') :
    ∀ (r : List Int) (j : Nat) (b : Int) (tb : Addr) (k1 k2 : Int) (H : Hp) (s : Shared) (tk : Tok) (c : Nat) (oI : Obj), all.drop j = r → j ≤ all.length →
      Inv X (pins ++ [(S, seqObj "list" #[.int b tk, .ref tb] c), (it, oI)]) σ H s → s.heap.IsListIter it a j → SqP X.K H tb [.int k1, .int k2] → FpOk X pins H it → FpOk X pins H S →
      kLoop X.K sp E a (all.map V.int) r b tb k1 k2 H Q →
      codeAny (model X.prog X.w) X.A (.builtin "min.loop" ⟨[.ref it, .ref f, .ref S], []⟩) R s := by
  have hname : (toString "min" ++ toString ".loop" : String) = "min.loop" := by decide
  have hh : X.A.in1.handled = none := hr.hd
  have notS : ∀ {b : Addr}, b ≠ it → b ∉ [it] := fun h z => h (List.mem_singleton.mp z)
  intro r
  induction r with
  | nil =>
    intro j b tb k1 k2 H s tk c oI hj hjl I hit htb fI fS hl
    obtain ⟨hs, q⟩ := hl
    obtain ⟨its, rv, hl, _⟩ := I.list hs
    have hlen : its.length = all.length := by rw [← rv.length]; simp
    have hj2 : j = its.toArray.size := by
      have := congrArg List.length hj
      simp at this ⊢; omega
    have W := Walks.list (prog := X.prog) (w := X.w) (A := X.A.in1) hh it a hai its.toArray
    have pS := I.pin (S, seqObj "list" #[.int b tk, .ref tb] c) (by simp)
    refine codeAny_builtin PySem.F.entry_min_loop ?_
    rw [Around.under_plainId PySem.F.plain_min_loop _]
    show wpAny _ X.A.in1 (seqItems? (.ref S) >>= _) _ _ _
    refine wpAny_bind (wpAny_seqItems pS.1 rfl ?_)
    show wpAny _ X.A.in1 (tryCatch (pyNext (.ref it)) _ >>= _) _ _ _
    refine wpAny_bind (wpAny_tryCatch (W.done _ _ _ ⟨by rw [← hj2]; exact hit, hl.isList⟩ fun h' tk' hk' => ?_))
    have I0 := I.unpinned
    have I1 := I0.turned (t' := tk') (fun b o hb e => hk' b o (notS hb) e) fI.1 fI.2.1 fI.2.2.2.1 fI.2.2.2.2.1 fI.2.2.2.2.2
    have hS' := hk' S _ (notS hSi) pS.1
    show wpAny _ X.A.in1 (updateSeq S (fun _ => #[]) >>= _) _ _ _
    refine wpAny_bind ?_
    refine wpAny_updateSeq hS' rfl (wpAny_bind (wpAny_letGo (wpAny_pure ?_)))
    exact hR _ _ ⟨.int b, H, I1.turned (t' := tk') (fun b o hb e => (Heap.get?_update_other _ _ (Ne.symm hb)).trans e) fS.1 fS.2.1 fS.2.2.2.1 fS.2.2.2.2.1 fS.2.2.2.2.2, ⟨_, rfl⟩, q⟩
  | cons n r ih =>
    intro j b tb k1 k2 H s tk c oI hj hjl I hit htb fI fS hl
    obtain ⟨hs, hc⟩ := hl
    obtain ⟨its, rv, hl, _⟩ := I.list hs
    have hlen : its.length = all.length := by rw [← rv.length]; simp
    have hj2 : j < its.toArray.size := by
      have := congrArg List.length hj
      simp at this ⊢; omega
    have hgn : (all.map V.int)[j]? = some (.int n) := by
      have : (all.drop j)[0]? = some n := by rw [hj]; rfl
      simp at this ⊢; exact this
    have hdr : all.drop (j + 1) = r := by
      have : (all.drop j).drop 1 = r := by rw [hj]; rfl
      simpa [List.drop_drop, Nat.add_comm] using this
    have W := Walks.list (prog := X.prog) (w := X.w) (A := X.A.in1) hh it a hai its.toArray
    have pS := I.pin (S, seqObj "list" #[.int b tk, .ref tb] c) (by simp)
    refine codeAny_builtin PySem.F.entry_min_loop ?_
    rw [Around.under_plainId PySem.F.plain_min_loop _]
    show wpAny _ X.A.in1 (seqItems? (.ref S) >>= _) _ _ _
    refine wpAny_bind (wpAny_seqItems pS.1 rfl ?_)
    show wpAny _ X.A.in1 (tryCatch (pyNext (.ref it)) _ >>= _) _ _ _
    refine wpAny_bind (wpAny_tryCatch (W.item j _ _ _ hj2 ⟨hit, hl.isList⟩ fun v h' tk' hP hst' hk' => ?_))
    have hv : its[j]? = some v := by simpa using hP
    obtain ⟨u, hu, ⟨tn, rfl⟩⟩ := rv.get hgn
    rw [hv] at hu
    cases hu
    obtain ⟨oI', hoI', hoc, hod⟩ := id hst'.1
    have I0 := I.unpinned
    have I1 := I0.turned (t' := tk') (fun b o hb e => hk' b o (notS hb) e) fI.1 fI.2.1 fI.2.2.2.1 fI.2.2.2.2.1 fI.2.2.2.2.2
    have hS' := hk' S _ (notS hSi) pS.1
    have I2 : Inv X (pins ++ [(S, seqObj "list" #[.int b tk, .ref tb] c), (it, oI')]) σ H { s with heap := h', toks := tk' } := I1.pins_of fun p hp => by
      rcases List.mem_append.mp hp with hp | hp
      · exact I1.pin p (List.mem_append_right _ hp)
      · rcases List.mem_cons.mp hp with rfl | hp
        · exact ⟨hS', fS.1, fS.2.1, fS.2.2.1, fun v z => nomatch z⟩
        · rw [List.mem_singleton.mp hp]
          exact ⟨hoI', fI.1, fI.2.1, fI.2.2.1, fun v z => by rw [hod] at z; cases z⟩
    have run := run_fn (X := Cx1 X) (E := E) F hr.in1 hb .nil (fun _ _ _ _ _ _ _ h => h.elim) (inv1 I2) (us := [.int n tn]) (vs := [.int n]) (.cons ⟨_, rfl⟩ .nil) hc
    show wpAny _ X.A.in1 (tryCatch (holding [.int n tn] (call (.ref f) [.int n tn])) _ >>= _) _ _ _
    refine wpAny_bind (wpAny_tryCatch (wpAny_holding (wpAny_mono run (fun x s2 he => ?_) fun _ _ hF => hF.elim)))
    obtain ⟨val, H1, I3', rval, t, j1, j2, rfl, ht, htb', hq⟩ := he
    obtain rfl : x = Value.ref t := rval
    have I3 := inv0 I.ok I3'
    have pS3 := I3.pin (S, seqObj "list" #[.int b tk, .ref tb] c) (by simp)
    have pI3 := I3.pin (it, oI') (by simp)
    have fI3 : FpOk X pins H1 it := ⟨pI3.2.1, fI.2⟩
    have fS3 : FpOk X pins H1 S := ⟨pS3.2.1, fS.2⟩
    have hit3 : s2.heap.IsListIter it a (j + 1) := ⟨oI', pI3.1, hoc, hod⟩
    show wpAny _ X.A.in1 (tryCatch (holding [.int n tn, .ref t] (richCompare .Lt (.ref t) (.ref tb) >>= _)) _ >>= _) _ _ _
    have hun : X.A.in1.units + min (PyData.tuple [.int j1, .int j2]).depth (PyData.tuple [.int k1, .int k2]).depth < cLine := by
      have := hr.un
      show X.A.units + 1 + _ < _
      have : min (PyData.tuple [.int j1, .int j2]).depth (PyData.tuple [.int k1, .int k2]).depth ≤ 10 := Nat.le_trans (Nat.min_le_left _ _) (by simp [PyData.depth, PyData.depthAll])
      omega
    refine wpAny_bind (wpAny_tryCatch (wpAny_holding (wpAny_bind (PySem.W.rcLt_alike _ _ _ s2 (.ref t) (.ref tb) _ _ (pairReads I3 ht) (pairReads I3 htb') (by simp [PySem.W.alike, PySem.W.alikeAll]) (fun z => nomatch z) hun _ _ _ _ ?_))))
    rw [PySem.W.dataLt_ii]
    refine wpAny_bind (wpAny_holding (wpAny_truthy_bool ?_))
    refine wpAny_bind (wpAny_letGo (wpAny_pure ?_))
    change if pairLt j1 j2 k1 k2 = true then _ else _ at hq
    by_cases hb' : pairLt j1 j2 k1 k2 = true
    · rw [if_pos hb'] at hq
      unfold pairLt at hb'
      have s1 := Heap.SameBut.update s2.heap S (Obj.mapSeq fun _ => #[.int n tn, .ref t])
      obtain ⟨c2, hc2⟩ : ∃ c2, (s2.heap.update S (Obj.mapSeq fun _ => #[.int n tn, .ref t])).get? S = some (seqObj "list" #[.int n tn, .ref t] c2) := ⟨_, get?_update_seq pS3.1 fun _ => #[.int n tn, .ref t]⟩
      simp only [hb', if_true]
      refine wpAny_bind ?_
      refine wpAny_updateSeq pS3.1 rfl (wpAny_bind (wpAny_letGo ?_))
      rw [hname]
      have I4 := I3.unpinned.turned (t' := s2.toks) (fun b o hb e => (Heap.get?_update_other (f := Obj.mapSeq fun _ => #[.int n tn, .ref t]) _ (Ne.symm hb)).trans e) fS3.1 fS3.2.1 fS3.2.2.2.1 fS3.2.2.2.2.1 fS3.2.2.2.2.2
      refine wpAny_pure ⟨plainId_quiet PySem.F.plain_min_loop _, ih (j + 1) n t j1 j2 H1 _ tn c2 oI' hdr (by simp at hj2; omega) (I4.pins_of fun p hp => ?_) ⟨oI', (s1.2 it hSi.symm).trans pI3.1, hoc, hod⟩ ht fI3 fS3 hq⟩
      rcases List.mem_append.mp hp with hp | hp
      · exact I4.pin p (List.mem_append_right _ hp)
      · rcases List.mem_cons.mp hp with rfl | hp
        · exact ⟨hc2, fS3.1, fS3.2.1, fS3.2.2.1, fun v z => nomatch z⟩
        · rw [List.mem_singleton.mp hp]
          exact ⟨(s1.2 it hSi.symm).trans pI3.1, pI3.2⟩
    · rw [if_neg hb'] at hq
      unfold pairLt at hb'
      simp only [hb', Bool.false_eq_true, if_false]
      refine wpAny_bind (wpAny_letGo ?_)
      rw [hname]
      exact wpAny_pure ⟨plainId_quiet PySem.F.plain_min_loop _, ih (j + 1) b tb k1 k2 H1 _ tk c oI' hdr (by simp at hj2; omega) I3 hit3 htb' fI3 fS3 hq⟩
theorem call_minK (F : FnOk X.prog X.w X.K X.mg X.base CX0 k f fd ps sp) (hr : Room (k + 1) X.A) (hb : Binds X.K fd ps []) : CallRK X (.builtin "min") ["key"] (rMinK X.K sp E f) := by
  intro pins s σ H xs zs us ws Q I r rz q
  obtain ⟨a, n, r', rfl, rfl, hs, hc⟩ := q
  have hname : (toString "min" ++ toString ".loop" : String) = "min.loop" := by decide
  have hh : X.A.in1.handled = none := hr.hd
  obtain ⟨its, rv, hl, _⟩ := I.list hs
  rw [Vals.ref1 r]
  obtain ⟨u, rfl, ru⟩ := Vals.one rz
  obtain rfl : u = Value.ref f := ru
  obtain ⟨ol, hol, _⟩ := id hl.isList
  have hll : a < s.heap.objs.size := Heap.lt_size hol
  show wpAny (model X.prog X.w) X.A (PySem.call (.builtin "min") [.ref a] [(Str.ofString "key", .ref f)]) (EP X pins σ Q) X.xe s
  refine kmk_tree PySem.F.kind_min PySem.F.plain_min PySem.F.entry_min (kmk_min_key _ _) ?_
  show wpAny _ X.A.in1 (Builtin.Builtins.bindParams "min" ["key", "default"] 0 ⟨[], [(Str.ofString "key", .ref f)]⟩ >>= _) _ _ s
  refine wpAny_bind (wpAny_of_eq (show Builtin.Builtins.bindParams "min" ["key", "default"] 0 ⟨[], [(Str.ofString "key", .ref f)]⟩ = pure [some (.ref f), none] from rfl) ?_)
  refine wpAny_bind (wpAny_pure ?_)
  refine wpAny_bind (wpAny_pyIter_list hl.isList ?_)
  refine wpAny_bind (wpAny_newList ?_ (Nat.zero_le _))
  rw [hname]
  refine wpAny_pure ⟨plainId_quiet PySem.F.plain_min_loop _, ?_⟩
  have I1 := I.kept (h' := s.heap.push { cls := .type "list_iterator", data := .fields #[.ref a, .int 0 0] }) (t' := s.toks) fun b o e => Heap.get?_push_of_some _ e
  have fI1 := I.fpOk (Nat.le_refl _) (I.hok.fresh (Nat.le_refl _))
  have fS1 := I1.fpOk (Nat.le_refl _) (I1.hok.fresh (Nat.le_refl _))
  have I2 := I1.kept (h' := (s.heap.push { cls := .type "list_iterator", data := .fields #[.ref a, .int 0 0] }).push (seqObj "list" #[] 0)) (t' := s.toks) fun b o e => Heap.get?_push_of_some _ e
  have hS : (s.heap.push { cls := .type "list_iterator", data := .fields #[.ref a, .int 0 0] }).objs.size = s.heap.objs.size + 1 := size_push' ..
  have gI : ((s.heap.push { cls := .type "list_iterator", data := .fields #[.ref a, .int 0 0] }).push (seqObj "list" #[] 0)).get? s.heap.objs.size = some { cls := .type "list_iterator", data := .fields #[.ref a, .int 0 0] } :=
    Heap.get?_push_of_some _ (Heap.get?_push_size _ rfl)
  have gS : ((s.heap.push { cls := .type "list_iterator", data := .fields #[.ref a, .int 0 0] }).push (seqObj "list" #[] 0)).get? (s.heap.push { cls := .type "list_iterator", data := .fields #[.ref a, .int 0 0] }).objs.size = some (seqObj "list" #[] 0) := Heap.get?_push_size _ rfl
  have hSI : (s.heap.push { cls := .type "list_iterator", data := .fields #[.ref a, .int 0 0] }).objs.size ≠ s.heap.objs.size := by rw [hS]; exact Nat.ne_of_gt (Nat.lt_succ_self _)
  have hai : a ≠ s.heap.objs.size := Nat.ne_of_lt hll
  change FpOk X pins H (s.heap.push { cls := .type "list_iterator", data := .fields #[.ref a, .int 0 0] }).objs.size at fS1
  change codeAny _ _ (.builtin "min.loop" ⟨[.ref s.heap.objs.size, .ref f, .ref (s.heap.push { cls := .type "list_iterator", data := .fields #[.ref a, .int 0 0] }).objs.size], []⟩) _ _
  generalize (s.heap.push { cls := .type "list_iterator", data := .fields #[.ref a, .int 0 0] }).objs.size = S at *
  generalize s.heap.objs.size = it at *
  generalize ((s.heap.push { cls := .type "list_iterator", data := .fields #[.ref a, .int 0 0] }).push (seqObj "list" #[] 0)) = h at *
  have notS : ∀ {b : Addr}, b ≠ it → b ∉ [it] := fun h z => h (List.mem_singleton.mp z)
  obtain ⟨its, rv, hl, _⟩ := I2.list hs
  have hlen : its.length = r'.length + 1 := by rw [← rv.length]; simp
  have W := Walks.list (prog := X.prog) (w := X.w) (A := X.A.in1) hh it a hai its.toArray
  refine codeAny_builtin PySem.F.entry_min_loop ?_
  rw [Around.under_plainId PySem.F.plain_min_loop _]
  show wpAny _ X.A.in1 (seqItems? (.ref S) >>= _) _ _ _
  refine wpAny_bind (wpAny_seqItems gS rfl ?_)
  show wpAny _ X.A.in1 (tryCatch (pyNext (.ref it)) _ >>= _) _ _ _
  refine wpAny_bind (wpAny_tryCatch (W.item 0 _ _ _ (by simp; omega) ⟨⟨_, gI, rfl, rfl⟩, hl.isList⟩ fun v h' tk' hP hst' hk' => ?_))
  have hv : its[0]? = some v := by simpa using hP
  obtain ⟨u, hu, ⟨tn, rfl⟩⟩ := rv.get (i := 0) (x := V.int n) rfl
  rw [hv] at hu
  cases hu
  obtain ⟨oI', hoI', hoc, hod⟩ := id hst'.1
  have I3 := I2.turned (t' := tk') (fun b o hb e => hk' b o (notS hb) e) fI1.1 fI1.2.1 fI1.2.2.2.1 fI1.2.2.2.2.1 fI1.2.2.2.2.2
  have hS' := hk' S _ (notS hSI) gS
  have I4 : Inv X (pins ++ [(S, seqObj "list" #[] 0), (it, oI')]) σ H { s with heap := h', toks := tk' } := I3.pins_of fun p hp => by
    rcases List.mem_append.mp hp with hp | hp
    · exact I3.pin p (List.mem_append_right _ hp)
    · rcases List.mem_cons.mp hp with rfl | hp
      · exact ⟨hS', fS1.1, fS1.2.1, fS1.2.2.1, fun v z => nomatch z⟩
      · rw [List.mem_singleton.mp hp]
        exact ⟨hoI', fI1.1, fI1.2.1, fI1.2.2.1, fun v z => by rw [hod] at z; cases z⟩
  have run := run_fn (X := Cx1 X) (E := E) F hr.in1 hb .nil (fun _ _ _ _ _ _ _ h => h.elim) (inv1 I4) (us := [.int n tn]) (vs := [.int n]) (.cons ⟨_, rfl⟩ .nil) hc
  show wpAny _ X.A.in1 (tryCatch (holding [.int n tn] (PySem.call (.ref f) [.int n tn])) _ >>= _) _ _ _
  refine wpAny_bind (wpAny_tryCatch (wpAny_holding (wpAny_mono run (fun x s2 he => ?_) fun _ _ hF => hF.elim)))
  obtain ⟨val, H1, I5', rval, t, j1, j2, rfl, ht, hq⟩ := he
  obtain rfl : x = Value.ref t := rval
  have I5 := inv0 I.ok I5'
  have pS5 := I5.pin (S, seqObj "list" #[] 0) (by simp)
  have pI5 := I5.pin (it, oI') (by simp)
  have fI5 : FpOk X pins H1 it := ⟨pI5.2.1, fI1.2⟩
  have fS5 : FpOk X pins H1 S := ⟨pS5.2.1, fS1.2⟩
  have s1 := Heap.SameBut.update s2.heap S (Obj.mapSeq fun _ => #[.int n tn, .ref t])
  obtain ⟨c2, hc2⟩ : ∃ c2, (s2.heap.update S (Obj.mapSeq fun _ => #[.int n tn, .ref t])).get? S = some (seqObj "list" #[.int n tn, .ref t] c2) := ⟨_, get?_update_seq pS5.1 fun _ => #[.int n tn, .ref t]⟩
  show wpAny _ X.A.in1 (updateSeq S (fun _ => #[.int n tn, .ref t]) >>= _) _ _ _
  refine wpAny_bind ?_
  refine wpAny_updateSeq pS5.1 rfl ?_
  rw [hname]
  have I6 := I5.unpinned.turned (t' := s2.toks) (fun b o hb e => (Heap.get?_update_other (f := Obj.mapSeq fun _ => #[.int n tn, .ref t]) _ (Ne.symm hb)).trans e) fS5.1 fS5.2.1 fS5.2.2.2.1 fS5.2.2.2.2.1 fS5.2.2.2.2.2
  refine wpAny_pure ⟨plainId_quiet PySem.F.plain_min_loop _, minK_loop (all := n :: r') F hr hb hai hSI (fun u s' h => h) r' 1 n t j1 j2 H1 _ tn c2 oI' rfl (by simp) (I6.pins_of fun p hp => ?_) ⟨oI', (s1.2 it hSI.symm).trans pI5.1, hoc, hod⟩ ht fI5 fS5 hq⟩
  rcases List.mem_append.mp hp with hp | hp
  · exact I6.pin p (List.mem_append_right _ hp)
  · rcases List.mem_cons.mp hp with rfl | hp
    · exact ⟨hc2, fS5.1, fS5.2.1, fS5.2.2.1, fun v z => nomatch z⟩
    · rw [List.mem_singleton.mp hp]
      exact ⟨(s1.2 it hSI.symm).trans pI5.1, pI5.2⟩

def tMinK (K : PySem.W.Frag) (sp : Sp) (E : XK) (t : TA) : TE := fun σ H Q => t σ H fun vs H1 => ∃ f, rMinK K sp E f vs [.ref f] H1 Q
theorem rMinK_any {K : PySem.W.Frag} {f g : Addr} {vs : List V} {H : Hp} {Q : VK} (h : rMinK K sp E f vs [.ref f] H Q) : rMinK K sp E g vs [.ref g] H Q := by
  obtain ⟨a, n, r, h1, _, h2⟩ := h
  exact ⟨a, n, r, h1, rfl, h2⟩
theorem pe_minK {nm : Str} {e : Expr} {t : TA} {p p2 kp pos : Pos} (F : FnOk X.prog X.w X.K X.mg X.base CX0 k f fd ps sp) (hr : Room (k + 1) X.A) (hb : Binds X.K fd ps []) (hgf : Gl X nm) (hmf : X.mg nm = some (.ref f)) (hg : Gl X "min") (hm : X.mg "min" = none)
    (ha : PA X [e] t) (hv : bootBuiltins "min" = some (.builtin "min") := by kernel_rfl) (hdf : (nm == ("__debug__" : Str)) = false := by decide) (hn : ("min" : Str) ≠ "__name__" := by decide) (hdb : (("min" : Str) == ("__debug__" : Str)) = false := by decide)
    (he : backTo pos (starEach [e] X.env) = (false, eval e X.env) :: backTo pos (starEach [] X.env) := by rfl) (hpl : (backTo pos (starEach [e] X.env)).any (·.1) = false := by rfl) :
    PE X (.Call (.Name "min" p) [e] [⟨some "key", .Name nm p2, kp⟩] pos) (tMinK X.K sp E t) := by
  have hk : PK X [⟨some "key", .Name nm p2, kp⟩] (tCons (tC (.ref f)) tNil) := pk_cons (pe_glob hgf hmf rfl hdf) pk_nil
  refine ⟨fun pins s σ H Q I h => ?_⟩
  refine wpAny_Call_Name_kw (ld_blt I hg hm hv ?_ hn hdb)
  refine PyProof.Rows.callWith_kw (thn (ha.run pos pins s σ H _ I h) fun us s1 ⟨vs, H1, I1, r1, g, q1⟩ => thn (hk.run pos pins s1 σ H1 (fun zs H2 => rMinK X.K sp E f vs zs H2 Q) I1 (rMinK_any q1)) fun ws s2 ⟨zs, H2, I2, r2, q2⟩ => ?_) he hpl rfl rfl
  exact call_minK F hr hb pins s2 σ H2 vs zs us ws Q I2 r1 r2 q2

end
end Far
/-! min(xs, key=f). -/
namespace Far
open PySem L2
def keyOf (F : List D → M S) (n : Int) : Option (Int × Int) := match F [.int n] with | .ok (.d (.tup [.int a, .int b])) => some (a, b) | _ => none
def minKL (F : List D → M S) : List Int → Int → Int × Int → M S
  | [], b, _ => .ok (.d (.int b))
  | n :: r, b, k => (M.of (keyOf F n)).bin fun j => if pairLt j.1 j.2 k.1 k.2 then minKL F r n j else minKL F r b k
def minKF (F : List D → M S) : List Int → M S
  | [] => .no
  | n :: r => (M.of (keyOf F n)).bin fun k => minKL F r n k
theorem keyOf_to {F : List D → M S} {n : Int} {j : Int × Int} (h : keyOf F n = some j) : F [.int n] = .ok (.d (.tup [.int j.1, .int j.2])) := by
  unfold keyOf at h
  split at h
  · rename_i a b e
    cases h
    exact e
  · cases h
section
variable {K : PySem.W.Frag} {δ : List S} {F : List D → M S} {ta : TA} {s : S} {ns : List Int} {E : XK}
theorem ev_minK (h : EA K ta δ [.lst (ns.map .int)]) (hm : minKF F ns = .ok s) : EV K (tMinK K (spD K (RF F)) E ta) δ s := by
  intro He Ge H τo τs σ hl ok Q q
  refine h He Ge H τo τs σ hl ok _ fun vs H1 G ok1 r1 => ?_
  cases r1 with
  | cons r1 r2 =>
    cases r2
    cases r1 with
    | lst ha rp =>
      rename_i a vs
      rw [rp_ints_inv rp] at ha
      have pr : ∀ {G' : Hp} {t : Addr} {vs : List V} {i j : Int}, SqP K G' t vs → RpL K G' [.int i, .int j] vs → SqP K G' t [.int i, .int j] := fun h r => by
        cases r with
        | cons r r2 => cases r2 with
          | cons r2 r3 => cases r3; cases r; cases r2; exact h
      have loop : ∀ (r : List Int) (b : Int) (k : Int × Int) (tb : Addr) (H1 G : Hp), OKG K He Ge H1 G (τo ++ σ) (τs ++ δ) → G a = some (.lst (ns.map V.int)) → SqP K G tb [.int k.1, .int k.2] → minKL F r b k = .ok s →
          kLoop K (spD K (RF F)) E a (ns.map V.int) r b tb k.1 k.2 H1 Q := by
        intro r
        induction r with
        | nil =>
          intro b k tb H1 G ok1 ha _ hm
          unfold minKL at hm
          cases hm
          exact ⟨SqL.of (ok1.gh _ _ ha), q _ _ (done ok1 .int)⟩
        | cons n r ih =>
          intro b k tb H1 G ok1 ha htb hm
          unfold minKL at hm
          cases hk : keyOf F n with
          | none => rw [hk] at hm; cases hm
          | some j =>
            rw [hk, M.of_some, M.ok_bin] at hm
            refine ⟨SqL.of (ok1.gh _ _ ha), G, [.int n], .ret (.d (.tup [.int j.1, .int j.2])), ⟨ok1.gh, ok1.nc.tb⟩, .cons .int .nil, .inl ⟨_, keyOf_to hk, rfl⟩, fun v s' G' H' e g1 g2 g3 nc kk ot' => ?_, fun c fs cls d G' H' e => nomatch e⟩
            cases e
            obtain ⟨v', e, rp⟩ := kk
            cases e
            cases rp with
            | tup hp rpl =>
              rename_i t _
              have hp := pr hp rpl
              refine ⟨t, j.1, j.2, rfl, g2.p hp, g2.p (g1.p htb), ?_⟩
              have ok2 := ok1.grow g3 g1 g2 nc
              by_cases hb : pairLt j.1 j.2 k.1 k.2 = true
              · rw [if_pos hb] at hm ⊢
                exact ih n j t H' G' ok2 (g1 _ _ ha) hp hm
              · rw [if_neg hb] at hm ⊢
                exact ih b k tb H' G' ok2 (g1 _ _ ha) (g1.p htb) hm
      cases ns with
      | nil => cases hm
      | cons n r =>
        change (M.of (keyOf F n)).bin (fun k => minKL F r n k) = .ok s at hm
        cases hk : keyOf F n with
        | none => rw [hk] at hm; cases hm
        | some j =>
          rw [hk, M.of_some, M.ok_bin] at hm
          refine ⟨0, a, n, r, rfl, rfl, SqL.of (ok1.gh _ _ ha), G, [.int n], .ret (.d (.tup [.int j.1, .int j.2])), ⟨ok1.gh, ok1.nc.tb⟩, .cons .int .nil, .inl ⟨_, keyOf_to hk, rfl⟩, fun v s' G' H' e g1 g2 g3 nc kk ot' => ?_, fun c fs cls d G' H' e => nomatch e⟩
          cases e
          obtain ⟨v', e, rp⟩ := kk
          cases e
          cases rp with
          | tup hp rpl =>
            rename_i t _
            have hp := pr hp rpl
            exact ⟨t, j.1, j.2, rfl, g2.p hp, loop r n j t H' G' (ok1.grow g3 g1 g2 nc) (g1 _ _ ha) hp hm⟩
end
variable {Hy : PySem.W.Frag → Prop}
def SE.minK (F : List D → M S) (a : SA Hy) : SE Hy where
  t K W := tMinK K (spD K (RF F)) E0 (a.t K W)
  f δ := (a.f δ).bin fun xs => (M.of (ints1 xs)).bin fun ns => (minKF F ns).bin .ok
  ok K hk W δ := by
    cases h : a.f δ with
    | ok xs =>
      rw [M.ok_bin]
      cases h2 : ints1 xs with
      | none => trivial
      | some ns =>
        rw [M.of_some, M.ok_bin]
        have ha := a.okA hk (W := W) h
        rw [ints1_to h2] at ha
        cases h3 : minKF F ns with
        | ok s => exact ev_minK ha h3
        | _ => trivial
    | _ => trivial
section
variable {F : List D → M S} {a : SA Hy} {δ : List S} {xs : List D}
@[simp] theorem minKe_f : (SE.minK F a).f δ = (a.f δ).bin fun xs => (M.of (ints1 xs)).bin fun ns => (minKF F ns).bin .ok := (rfl)
end
end Far
/-! enumerate(list), zip(list, list). -/
namespace Far
open PySem L2
def enumD : Nat → List D → List D
  | _, [] => []
  | n, x :: r => .utp [.int (n : Int), x] :: enumD (n + 1) r
def zipD : List D → List D → List D
  | x :: xs, y :: ys => .utp [x, y] :: zipD xs ys
  | _, _ => []
theorem enumD_len : ∀ (n : Nat) (xs : List D), (enumD n xs).length = xs.length
  | _, [] => rfl
  | n, _ :: r => congrArg (· + 1) (enumD_len (n + 1) r)
theorem enumD_get : ∀ (n : Nat) (xs : List D) (i : Nat), (enumD n xs)[i]? = xs[i]?.map fun x => .utp [.int ((n + i : Nat) : Int), x]
  | _, [], _ => rfl
  | n, x :: r, 0 => rfl
  | n, x :: r, i + 1 => by
    show (enumD (n + 1) r)[i]? = r[i]?.map _
    rw [enumD_get (n + 1) r i, show n + 1 + i = n + (i + 1) by omega]
theorem zipD_len : ∀ (xs ys : List D), (zipD xs ys).length = min xs.length ys.length
  | [], _ => by simp [zipD]
  | _ :: _, [] => by simp [zipD]
  | _ :: xs, _ :: ys => by simp [zipD, zipD_len xs ys]
theorem zipD_get : ∀ (xs ys : List D) (i : Nat) (x y : D), xs[i]? = some x → ys[i]? = some y → (zipD xs ys)[i]? = some (.utp [x, y])
  | [], _, _, _, _, h, _ => by simp at h
  | _ :: _, [], _, _, _, _, h => by simp at h
  | a :: xs, b :: ys, 0, x, y, h1, h2 => by simp at h1 h2; subst h1 h2; rfl
  | a :: xs, b :: ys, i + 1, x, y, h1, h2 => zipD_get xs ys i x y (by simpa using h1) (by simpa using h2)
section
variable {K : PySem.W.Frag} {δ : List S}
theorem grow_tup {H G1 : Hp} {T : Addr} {xs : List D} {vs : List V} (e2 : Ex G1 H) (hT : H T = none) (r : RpL K G1 xs vs) : ∃ G2, Ex H (upd H T (.tup vs)) ∧ Ex G1 G2 ∧ Ex G2 (upd H T (.tup vs)) ∧ Nw K H G1 (upd H T (.tup vs)) G2 ∧ Rp K G2 (.utp xs) (.ref T) := by
  have hg : G1 T = none := e2.none hT
  refine ⟨upd G1 T (.tup vs), .new hT, .new hg, e2.both, ⟨fun b h1 h2 => ?_, fun t => t.new hT (.new hg)⟩, .utp (.inl (.inl upd_same)) (r.mono (.new hg))⟩
  · rw [upd_ne (fun q => h1 (by rw [q]; exact hT))]; exact h2
theorem jig_enum {G : Hp} {a : Addr} {vs : List V} {xs : List D} (hp : G a = some (.lst vs)) (r : RpL K G xs vs) : JIg K G (Ite K a) (enumD 0 xs) := fun H G1 e1 e2 => by
  have h := SqL.of (K := K) (e2 _ _ (e1 _ _ hp))
  have hl := r.length
  rw [enumD_len]
  refine ⟨fun i hi => ⟨vs, vs[i], h, List.getElem?_eq_getElem (by omega)⟩, fun i v H' hy hi => ?_, fun i hi => ⟨vs, h, by omega⟩⟩
  obtain ⟨T, x, rfl, hT, rfl, hx⟩ := hy
  have ex := hx vs h
  obtain ⟨y, ey, ry⟩ := r.getV ex
  obtain ⟨G2, g1, g2, g3, g4, rp⟩ := grow_tup (K := K) (xs := [.int (i : Int), y]) (vs := [.int (i : Int), x]) e2 hT (.cons .int (.cons (ry.mono e1) .nil))
  exact ⟨G2, _, g1, g2, g3, g4, by rw [enumD_get, ey, Nat.zero_add]; rfl, rp⟩
theorem jig_zip {G : Hp} {a b : Addr} {vs us : List V} {xs ys : List D} (hp : G a = some (.lst vs)) (hq : G b = some (.lst us)) (r : RpL K G xs vs) (s : RpL K G ys us) : JIg K G (Itz K a b) (zipD xs ys) := fun H G1 e1 e2 => by
  have h := SqL.of (K := K) (e2 _ _ (e1 _ _ hp))
  have k := SqL.of (K := K) (e2 _ _ (e1 _ _ hq))
  have hl := r.length
  have kl := s.length
  rw [zipD_len]
  refine ⟨fun i hi => ⟨vs, us, vs[i], us[i], h, k, List.getElem?_eq_getElem (by omega), List.getElem?_eq_getElem (by omega)⟩, fun i v H' hy hi => ?_, fun i hi => ⟨vs, us, h, k, by omega⟩⟩
  obtain ⟨T, x, z, rfl, hT, rfl, hx, hz⟩ := hy
  obtain ⟨y, ey, ry⟩ := r.getV (hx vs h)
  obtain ⟨w, ew, rw_⟩ := s.getV (hz us k)
  obtain ⟨G2, g1, g2, g3, g4, rp⟩ := grow_tup (K := K) (xs := [y, w]) (vs := [x, z]) e2 hT (.cons (ry.mono e1) (.cons (rw_.mono e1) .nil))
  exact ⟨G2, _, g1, g2, g3, g4, zipD_get xs ys i y w ey ew, rp⟩
theorem ei_enum {tr : TA} {xs : List D} (h : EA K tr δ [.lst xs]) : EI K (iEnum K tr) δ (enumD 0 xs) := by
  intro He Ge H τo τs σ hl ok R q
  refine h He Ge H τo τs σ hl ok _ fun vs H1 G ok1 r1 => ?_
  cases r1 with
  | cons r1 r2 =>
    cases r2
    cases r1 with
    | lst hp r => exact ⟨_, _, rfl, SqL.of (ok1.gh _ _ hp), q _ H1 G ok1 (jig_enum hp r)⟩
theorem ei_zip {tr : TA} {xs ys : List D} (h : EA K tr δ [.lst xs, .lst ys]) : EI K (iZip K tr) δ (zipD xs ys) := by
  intro He Ge H τo τs σ hl ok R q
  refine h He Ge H τo τs σ hl ok _ fun vs H1 G ok1 r1 => ?_
  cases r1 with
  | cons r1 r2 =>
    cases r2 with
    | cons r2 r3 =>
      cases r3
      cases r1 with
      | lst hp r =>
        cases r2 with
        | lst hq s => exact ⟨_, _, _, _, rfl, SqL.of (ok1.gh _ _ hp), SqL.of (ok1.gh _ _ hq), q _ H1 G ok1 (jig_zip hp hq r s)⟩
end
section
variable {Hy : PySem.W.Frag → Prop}
def enumF (xs : List D) : M (List D) := match xs with | [.lst ys] => .ok (enumD 0 ys) | _ => .no
def zipF (xs : List D) : M (List D) := match xs with | [.lst xs, .lst ys] => .ok (zipD xs ys) | _ => .no
def SI.enumerate (a : SA Hy) : SI Hy where
  t K W := iEnum K (a.t K W)
  f δ := (a.f δ).bin enumF
  ok K hk W δ := by
    cases h : a.f δ with
    | ok xs =>
      rw [M.ok_bin]
      unfold enumF
      split
      · exact ei_enum (a.okA hk h)
      · trivial
    | _ => trivial
def SI.zip (a : SA Hy) : SI Hy where
  t K W := iZip K (a.t K W)
  f δ := (a.f δ).bin zipF
  ok K hk W δ := by
    cases h : a.f δ with
    | ok xs =>
      rw [M.ok_bin]
      unfold zipF
      split
      · exact ei_zip (a.okA hk h)
      · trivial
    | _ => trivial
@[simp] theorem SI.enumerate_f (a : SA Hy) (δ : List S) : (SI.enumerate a).f δ = (a.f δ).bin enumF := (rfl)
@[simp] theorem SI.zip_f (a : SA Hy) (δ : List S) : (SI.zip a).f δ = (a.f δ).bin zipF := (rfl)
@[simp] theorem enumF_l {xs : List D} : enumF [.lst xs] = .ok (enumD 0 xs) := (rfl)
@[simp] theorem zipF_l {xs ys : List D} : zipF [.lst xs, .lst ys] = .ok (zipD xs ys) := (rfl)
end
end Far
/-! Dicts by whole numbers and texts: written out, put, asked. -/
namespace Far
open PySem L2
def keyD : D → Option Key
  | .int i => some (.inl i) | .str x => some (.inr x) | _ => none
def valD (kvs : List (Key × D)) (k : Key) : Option D := (kvs.find? fun kv => decide (kv.1 = k)).map (·.2)
def putKD (kvs : List (Key × D)) (k : Key) (v : D) : List (Key × D) := if (kvs.any fun kv => decide (kv.1 = k)) = true then kvs.map (fun kv => if kv.1 = k then (kv.1, v) else kv) else kvs ++ [(k, v)]
def mergeKD (kvs more : List (Key × D)) : List (Key × D) := more.foldl (fun acc kv => putKD acc kv.1 kv.2) kvs
section
variable {K : PySem.W.Frag} {H G : Hp} {δ : List S}
theorem keyD_rp {x : D} {v : V} {k : Key} (h : keyD x = some k) (r : Rp K G x v) : v = kV k := by
  cases r <;> simp only [keyD] at h <;> (first | (cases h; rfl) | (cases h; done))
theorem RpK.length : ∀ {xs : List (Key × D)} {vs : List (Key × V)}, RpK K G xs vs → xs.length = vs.length
  | _, _, .nil => rfl
  | _, _, .cons _ r => congrArg (· + 1) r.length
theorem RpK.val {k : Key} : ∀ {xs : List (Key × D)} {vs : List (Key × V)}, RpK K G xs vs → (∀ x, valD xs k = some x → ∃ v, valV vs k = some v ∧ Rp K G x v) ∧ (valD xs k = none → valV vs k = none)
  | _, _, .nil => ⟨fun x h => (by cases h), fun _ => rfl⟩
  | _, _, .cons (f := f) (x := x) (v := v) (xs := xs) (vs := vs) h r => by
    unfold valD valV
    rw [List.find?_cons, List.find?_cons]
    by_cases e : f = k
    · simp only [e, decide_true]
      exact ⟨fun y hy => by cases hy; exact ⟨_, rfl, h⟩, fun z => nomatch z⟩
    · simp only [decide_eq_false e]
      exact RpK.val r
theorem RpK.any {k : Key} : ∀ {xs : List (Key × D)} {vs : List (Key × V)}, RpK K G xs vs → (xs.any fun kv => decide (kv.1 = k)) = (vs.any fun kv => decide (kv.1 = k))
  | _, _, .nil => rfl
  | _, _, .cons h r => by rw [List.any_cons, List.any_cons, r.any]
theorem RpK.app : ∀ {xs ys : List (Key × D)} {vs us : List (Key × V)}, RpK K G xs vs → RpK K G ys us → RpK K G (xs ++ ys) (vs ++ us)
  | _, _, _, _, .nil, s => s
  | _, _, _, _, .cons h r, s => .cons h (r.app s)
theorem RpK.repl {k : Key} {y : D} {u : V} (hy : Rp K G y u) : ∀ {xs : List (Key × D)} {vs : List (Key × V)}, RpK K G xs vs → RpK K G (xs.map fun kv => if kv.1 = k then (kv.1, y) else kv) (vs.map fun kv => if kv.1 = k then (kv.1, u) else kv)
  | _, _, .nil => .nil
  | _, _, .cons (f := f) h r => by
    rw [List.map_cons, List.map_cons]
    by_cases e : f = k
    · simp only [e, if_true]; exact .cons hy (r.repl hy)
    · simp only [e, if_false]; exact .cons h (r.repl hy)
theorem RpK.put {k : Key} {y : D} {u : V} {xs : List (Key × D)} {vs : List (Key × V)} (r : RpK K G xs vs) (hy : Rp K G y u) : RpK K G (putKD xs k y) (putK vs k u) := by
  unfold putKD putK
  rw [r.any]
  split
  · exact r.repl hy
  · exact r.app (.cons hy .nil)
theorem RpK.merge : ∀ {more : List (Key × D)} {mv : List (Key × V)} {xs : List (Key × D)} {vs : List (Key × V)}, RpK K G xs vs → RpK K G more mv → RpK K G (mergeKD xs more) (mergeK vs mv)
  | _, _, _, _, r, .nil => r
  | _, _, _, _, r, .cons (f := f) h m => (let z := RpK.merge (RpK.put (k := f) r h) m; z)
theorem putKD_len (kvs : List (Key × D)) (k : Key) (v : D) : (putKD kvs k v).length ≤ kvs.length + 1 := by
  unfold putKD; split <;> simp
variable {te tk tv td : TE} {x y : D} {k : Key} {kvs : List (Key × D)}
theorem ev_dget (h1 : EV K td δ (.d (.dK kvs))) (h2 : EV K tk δ (.d x)) (hk : keyD x = some k) (hv : valD kvs k = some y) : EV K (tDGet td tk) δ (.d y) := by
  intro He Ge H τo τs σ hl ok Q q
  refine h1 He Ge H τo τs σ hl ok _ fun v H1 ok1 => ?_
  refine h2 He Ge H1 (some v :: τo) (.d (.dK kvs) :: τs) σ (by simp [hl]) ok1 _ fun u H2 ⟨G, ok2⟩ => ?_
  obtain ⟨_, e1, r1⟩ := ok2.top
  obtain ⟨_, e2, r2⟩ := ok2.pop.top
  cases e1; cases e2
  cases r2 with
  | dK hp rk =>
    obtain ⟨w, ew, rw_⟩ := (rk.val (k := k)).1 y hv
    exact ⟨_, w, rfl, .inl ⟨_, k, .inl (ok2.gh _ _ hp), keyD_rp hk r1, ew.symm⟩, q _ _ ⟨G, ok2.pop.pop.pushD rw_⟩⟩
theorem ev_din (h1 : EV K tk δ (.d x)) (h2 : EV K td δ (.d (.dK kvs))) (hk : keyD x = some k) : EV K (tDIn tk td) δ (.d (.bl (valD kvs k).isSome)) := by
  intro He Ge H τo τs σ hl ok Q q
  refine h1 He Ge H τo τs σ hl ok _ fun v H1 ok1 => ?_
  refine h2 He Ge H1 (some v :: τo) (.d x :: τs) σ (by simp [hl]) ok1 _ fun u H2 ⟨G, ok2⟩ => ?_
  obtain ⟨_, e1, r1⟩ := ok2.top
  obtain ⟨_, e2, r2⟩ := ok2.pop.top
  cases e1; cases e2
  cases r1 with
  | @dK a _ gs hp rk =>
    have rv := rk.val (k := k)
    refine ⟨_, valV gs k, rfl, .inl ⟨_, k, .inl (ok2.gh _ _ hp), keyD_rp hk r2, rfl⟩, q _ _ ⟨G, ?_⟩⟩
    have e : (valV gs k).isSome = (valD kvs k).isSome := by
      cases h : valD kvs k with
      | none => rw [rv.2 h]; rfl
      | some y => obtain ⟨w, ew, _⟩ := rv.1 y h; rw [ew]; rfl
    rw [e]
    exact ok2.pop.pop.pushD .bl
theorem ev_dnotin (h1 : EV K tk δ (.d x)) (h2 : EV K td δ (.d (.dK kvs))) (hk : keyD x = some k) : EV K (tDNotIn tk td) δ (.d (.bl (!(valD kvs k).isSome))) := by
  intro He Ge H τo τs σ hl ok Q q
  refine h1 He Ge H τo τs σ hl ok _ fun v H1 ok1 => ?_
  refine h2 He Ge H1 (some v :: τo) (.d x :: τs) σ (by simp [hl]) ok1 _ fun u H2 ⟨G, ok2⟩ => ?_
  obtain ⟨_, e1, r1⟩ := ok2.top
  obtain ⟨_, e2, r2⟩ := ok2.pop.top
  cases e1; cases e2
  cases r1 with
  | @dK a _ gs hp rk =>
    have rv := rk.val (k := k)
    refine ⟨_, valV gs k, rfl, .inl ⟨_, k, .inl (ok2.gh _ _ hp), keyD_rp hk r2, rfl⟩, q _ _ ⟨G, ?_⟩⟩
    have e : (valV gs k).isSome = (valD kvs k).isSome := by
      cases h : valD kvs k with
      | none => rw [rv.2 h]; rfl
      | some y => obtain ⟨w, ew, _⟩ := rv.1 y h; rw [ew]; rfl
    rw [e]
    exact ok2.pop.pop.pushD .bl
theorem ev_dget2 {z : D} (h1 : EV K td δ (.d (.dK kvs))) (h2 : EV K tk δ (.d x)) (h3 : EV K tv δ (.d z)) (hk : keyD x = some k) : EV K (tDGet2 td tk tv) δ (.d ((valD kvs k).getD z)) := by
  intro He Ge H τo τs σ hl ok Q q
  refine h1 He Ge H τo τs σ hl ok _ fun v H1 ok1 => ?_
  obtain ⟨G1, okk⟩ := id ok1
  obtain ⟨_, e0, r0⟩ := okk.top
  cases e0
  cases r0 with
  | dK hp0 rk0 =>
    refine ⟨_, rfl, .inl ⟨_, .inl (okk.gh _ _ hp0)⟩, ?_⟩
    refine h2 He Ge H1 (some _ :: τo) (.d (.dK kvs) :: τs) σ (by simp [hl]) ok1 _ fun u H2 ok2 => ?_
    refine h3 He Ge H2 (some u :: some _ :: τo) (.d x :: .d (.dK kvs) :: τs) σ (by simp [hl]) ok2 _ fun w H3 ⟨G, ok3⟩ => ?_
    obtain ⟨_, e1, r1⟩ := ok3.top
    obtain ⟨_, e2, r2⟩ := ok3.pop.top
    obtain ⟨_, e3, r3⟩ := ok3.pop.pop.top
    cases e1; cases e2; cases e3
    cases r3 with
    | @dK _ _ gs hp rk =>
      have rv := rk.val (k := k)
      refine ⟨valV gs k, .inl ⟨_, k, .inl (ok3.gh _ _ hp), keyD_rp hk r2, rfl⟩, q _ _ ⟨G, ok3.pop.pop.pop.pushD ?_⟩⟩
      cases h : valD kvs k with
      | none => rw [rv.2 h]; exact r1
      | some y => obtain ⟨w2, ew, rw2⟩ := rv.1 y h; rw [ew]; exact rw2
/-- the pairs of a dict written out -/
def EP2 (K : PySem.W.Frag) (trs : List (TE × TE)) (δ : List S) (kvs : List (Key × D)) : Prop := ∀ (He Ge H : Hp) (τo : St) (τs : List S) (σ : St), τo.length = τs.length → OK K He Ge H (τo ++ σ) (τs ++ δ) →
  ∀ Q : List (V × V) → Hp → Prop, (∀ gs H' G', OKG K He Ge H' G' (τo ++ σ) (τs ++ δ) → RpK K G' kvs gs → Q (gs.map fun kv => (kV kv.1, kv.2)) H') → tPairs trs σ H Q
theorem ep_nil : EP2 K [] δ [] := fun He Ge H τo τs σ hl ⟨G, ok⟩ Q q => q [] H G ok .nil
theorem ep_cons {trs : List (TE × TE)} (h1 : EV K tk δ (.d x)) (hk : keyD x = some k) (h2 : EV K tv δ (.d y)) (h3 : EP2 K trs δ kvs) : EP2 K ((tk, tv) :: trs) δ ((k, y) :: kvs) := by
  intro He Ge H τo τs σ hl ok Q q
  show tk σ H fun x4 H1 => tv σ H1 fun y4 H2 => tPairs trs σ H2 fun ps H3 => Q ((x4, y4) :: ps) H3
  refine h1 He Ge H τo τs σ hl ok _ fun v H1 ok1 => ?_
  refine h2 He Ge H1 (some v :: τo) (.d x :: τs) σ (by simp [hl]) ok1 _ fun u H2 ok2 => ?_
  refine h3 He Ge H2 (some u :: some v :: τo) (.d y :: .d x :: τs) σ (by simp [hl]) ok2 _ fun gs H3 G ok3 r => ?_
  obtain ⟨_, e1, r1⟩ := ok3.top
  obtain ⟨_, e2, r2⟩ := ok3.pop.top
  cases e1; cases e2
  have := q ((k, u) :: gs) H3 G ok3.pop.pop (.cons r1 r)
  rw [List.map_cons] at this
  rw [keyD_rp hk r2]
  exact this
theorem OKG.newK {He Ge H G : Hp} {σ : St} {δ : List S} {p : Addr} {xs : List (Key × D)} {vs : List (Key × V)} (ok : OKG K He Ge H G σ δ) (hp : H p = none) (r : RpK K G xs vs) : OKG K He Ge (upd H p (.dK vs)) G (some (.ref p) :: σ) (.okd xs :: δ) := by
  refine (ok.newH hp).push ⟨p, vs, rfl, ok.he.none hp, ok.gh.none hp, upd_same, r⟩ fun _ j t p' e hj ho eσ => ?_
  cases e
  obtain ⟨o, eo, k⟩ := ok.sl j t hj
  rw [eo] at eσ
  cases eσ
  cases t with
  | un => cases ho
  | ot _ _ _ => cases ho
  | d x => cases ho
  | own ys => obtain ⟨p', vs', e, _, _, h3, _⟩ := k; cases e; rw [hp] at h3; cases h3
  | okd ys => obtain ⟨p', vs', e, _, _, h3, _⟩ := k; cases e; rw [hp] at h3; cases h3
  | oko ys => obtain ⟨p', vs', e, _, _, h3⟩ := k; cases e; rw [hp] at h3; cases h3
  | ob q C fs => obtain ⟨a, dx, gs, e, _, _, _, _, _, h5, _⟩ := k; cases e; rw [hp] at h5; cases h5
theorem ev_dnewO : EV K tDNewK δ (.okd []) := by
  intro He Ge H τo τs σ hl ⟨G, ok⟩ Q q
  exact fun p hp => q _ _ ⟨G, ok.newK hp .nil⟩
theorem ev_disp {trs : List (TE × TE)} (h : EP2 K trs δ kvs) (hz : kvs.length ≤ 15) : EV K (tDisp trs) δ (.okd (mergeKD [] kvs)) := by
  intro He Ge H τo τs σ hl ⟨G, ok⟩ Q q p hp
  have ok1 := ok.newK (xs := []) (vs := []) hp .nil
  refine h He Ge _ (some (.ref p) :: τo) (.okd [] :: τs) σ (by simp [hl]) ⟨G, ok1⟩ _ fun gs H2 G2 ok2 r => ?_
  obtain ⟨_, e0, p0, us, e1, k1, k2, k3, rk⟩ := ok2.sl 0 (.okd []) rfl
  cases e0; cases e1; cases rk
  refine ⟨k3, gs, rfl, by rw [← r.length]; exact hz, q _ _ ⟨G2, ?_⟩⟩
  exact OKG.changeK (i := 0) ok2 rfl rfl k3 (RpK.nil.merge r)
variable {W : WX} {N B Ct : List S → Prop} {Rt : S → List S → Prop} {Xc : List S → Addr → List (Str × D) → Prop}
theorem sd_dput {i : Nat} (hi : δ[i]? = some (.okd kvs)) (h1 : EV K tv δ (.d y)) (h2 : EV K tk δ (.d x)) (hk : keyD x = some k) (hz : kvs.length < sizeLine) (n : N (δ.set i (.okd (putKD kvs k y)))) : SD K W (sDPut (tVar i) tk tv) δ N Rt B Ct Xc := by
  intro He Ge H σ Dn ok nx r bk ct xx
  refine ev0 h1 ok fun v H1 ok1 => ?_
  obtain ⟨G1, okk⟩ := id ok1
  obtain ⟨o, eo, p, vs, rfl, k1, k2, k3, rv⟩ := okk.pop.sl i _ hi
  refine ⟨_, eo, ?_⟩
  refine h2 He Ge H1 [some v] [.d y] σ rfl ok1 _ fun u H2 ⟨G, ok2⟩ => ?_
  obtain ⟨_, e1, r1⟩ := ok2.top
  obtain ⟨_, e2, r2⟩ := ok2.pop.top
  cases e1; cases e2
  obtain ⟨o2, eo2, p2, vs2, e3, j1, j2, j3, rv2⟩ := ok2.pop.pop.sl i _ hi
  have eo2 : σ[i]? = some o2 := eo2
  rw [eo] at eo2
  cases eo2; cases e3
  exact ⟨p, _, rfl, .inl ⟨vs2, k, j3, keyD_rp hk r1, by rw [← rv2.length]; exact hz, rfl⟩, nx _ _ _ ⟨G, OKG.changeK ok2.pop.pop hi eo j3 (rv2.put r2)⟩ n⟩
end
section
variable {Hy : PySem.W.Frag → Prop}
/-- slot i a dict of one's own -/
def okD : List S → Nat → M (List (Key × D))
  | .okd kvs :: _, 0 => .ok kvs
  | _ :: l, i + 1 => okD l i
  | _, _ => .no
@[simp] theorem okD_0 {l : List S} {kvs : List (Key × D)} : okD (.okd kvs :: l) 0 = .ok kvs := (rfl)
theorem okD_s {l : List S} {s : S} {i : Nat} : okD (s :: l) (i + 1) = okD l i := by cases s <;> rfl
theorem okD_ok : ∀ {δ : List S} {i : Nat} {kvs : List (Key × D)}, okD δ i = .ok kvs → δ[i]? = some (.okd kvs)
  | [], i, s, h => by cases i <;> cases h
  | a :: l, 0, s, h => by cases a <;> cases h; rfl
  | a :: l, i + 1, s, h => by rw [okD_s] at h; simpa using okD_ok h
structure SP (Hy : PySem.W.Frag → Prop) where
  t : PySem.W.Frag → WX → List (TE × TE)
  f : List S → M (List (Key × D))
  ok : ∀ K, Hy K → ∀ W δ kvs, f δ = .ok kvs → EP2 K (t K W) δ kvs
def SP.nil : SP Hy := ⟨fun _ _ => [], fun _ => .ok [], fun K hk W δ kvs h => by cases h; exact ep_nil⟩
def SP.cons (a b : SE Hy) (r : SP Hy) : SP Hy where
  t K W := (a.t K W, b.t K W) :: r.t K W
  f δ := (a.fd δ).bin fun x => (M.of (keyD x)).bin fun k => (b.fd δ).bin fun y => (r.f δ).bin fun l => .ok ((k, y) :: l)
  ok K hk W δ kvs h := by
    cases h1 : a.fd δ with
    | ok x =>
      cases h2 : keyD x with
      | some k =>
        cases h3 : b.fd δ with
        | ok y =>
          cases h4 : r.f δ with
          | ok l =>
            simp only [h1, M.ok_bin, h2, M.of_some, h3, h4] at h
            cases h
            exact ep_cons (a.okD hk h1) h2 (b.okD hk h3) (r.ok K hk W δ l h4)
          | _ => simp only [h1, M.ok_bin, h2, M.of_some, h3, h4] at h; cases h
        | _ => simp only [h1, M.ok_bin, h2, M.of_some, h3] at h; cases h
      | none => simp only [h1, M.ok_bin, h2] at h; cases h
    | _ => simp only [h1] at h; cases h
/-- {k: v, ..} -/
def SE.disp (p : SP Hy) : SE Hy where
  t K W := tDisp (p.t K W)
  f δ := (p.f δ).bin fun kvs => if kvs.length ≤ 15 then .ok (.okd (mergeKD [] kvs)) else .no
  ok K hk W δ := by
    cases h : p.f δ with
    | ok kvs =>
      rw [M.ok_bin]
      by_cases z : kvs.length ≤ 15
      · rw [if_pos z]; exact ev_disp (p.ok K hk W δ kvs h) z
      · rw [if_neg z]; trivial
    | _ => trivial
/-- {} that is changed later -/
def SE.dnewO : SE Hy := ⟨fun _ _ => tDNewK, fun _ => .ok (.okd []), fun _ _ _ _ => ev_dnewO⟩
def asDK : D → M (List (Key × D)) | .dK kvs => .ok kvs | _ => .no
@[simp] theorem asDK_dK {kvs : List (Key × D)} : asDK (.dK kvs) = .ok kvs := (rfl)
theorem asDK_to {x : D} {kvs : List (Key × D)} (h : asDK x = .ok kvs) : x = .dK kvs := by cases x <;> cases h; rfl
/-- d[k] -/
def SE.dget (o i : SE Hy) : SE Hy where
  t K W := tDGet (o.t K W) (i.t K W)
  f δ := (o.fd δ).bin fun x => (asDK x).bin fun kvs => (i.fd δ).bin fun y => (M.of (keyD y)).bin fun k => (M.of (valD kvs k)).bin fun z => .ok (.d z)
  ok K hk W δ := by
    cases h1 : o.fd δ with
    | ok x =>
      cases h2 : asDK x with
      | ok kvs =>
        cases h3 : i.fd δ with
        | ok y =>
          cases h4 : keyD y with
          | some k =>
            cases h5 : valD kvs k with
            | some z =>
              simp only [M.ok_bin, h2, h3, h4, M.of_some, h5]
              have e := asDK_to h2
              subst e
              exact ev_dget (o.okD hk h1) (i.okD hk h3) h4 h5
            | none => simp only [M.ok_bin, h2, h3, h4, M.of_some, h5]; trivial
          | none => simp only [M.ok_bin, h2, h3, h4]; trivial
        | _ => simp only [M.ok_bin, h2, h3]; trivial
      | _ => simp only [M.ok_bin, h2]; trivial
    | _ => trivial
/-- d.get(k, z) -/
def SE.dget2 (o i c : SE Hy) : SE Hy where
  t K W := tDGet2 (o.t K W) (i.t K W) (c.t K W)
  f δ := (o.fd δ).bin fun x => (asDK x).bin fun kvs => (i.fd δ).bin fun y => (M.of (keyD y)).bin fun k => (c.fd δ).bin fun z => .ok (.d ((valD kvs k).getD z))
  ok K hk W δ := by
    cases h1 : o.fd δ with
    | ok x =>
      cases h2 : asDK x with
      | ok kvs =>
        cases h3 : i.fd δ with
        | ok y =>
          cases h4 : keyD y with
          | some k =>
            cases h5 : c.fd δ with
            | ok z =>
              simp only [M.ok_bin, h2, h3, h4, M.of_some, h5]
              have e := asDK_to h2
              subst e
              exact ev_dget2 (o.okD hk h1) (i.okD hk h3) (c.okD hk h5) h4
            | _ => simp only [M.ok_bin, h2, h3, h4, M.of_some, h5]; trivial
          | none => simp only [M.ok_bin, h2, h3, h4]; trivial
        | _ => simp only [M.ok_bin, h2, h3]; trivial
      | _ => simp only [M.ok_bin, h2]; trivial
    | _ => trivial
/-- k in d, k not in d -/
def SE.din (i o : SE Hy) : SE Hy where
  t K W := tDIn (i.t K W) (o.t K W)
  f δ := (i.fd δ).bin fun y => (M.of (keyD y)).bin fun k => (o.fd δ).bin fun x => (asDK x).bin fun kvs => .ok (.d (.bl (valD kvs k).isSome))
  ok K hk W δ := by
    cases h1 : i.fd δ with
    | ok y =>
      cases h2 : keyD y with
      | some k =>
        cases h3 : o.fd δ with
        | ok x =>
          cases h4 : asDK x with
          | ok kvs =>
            simp only [M.ok_bin, h2, h3, M.of_some, h4]
            have e := asDK_to h4
            subst e
            exact ev_din (i.okD hk h1) (o.okD hk h3) h2
          | _ => simp only [M.ok_bin, h2, h3, M.of_some, h4]; trivial
        | _ => simp only [M.ok_bin, h2, h3, M.of_some]; trivial
      | none => simp only [M.ok_bin, h2]; trivial
    | _ => trivial
def SE.dnotin (i o : SE Hy) : SE Hy where
  t K W := tDNotIn (i.t K W) (o.t K W)
  f δ := (i.fd δ).bin fun y => (M.of (keyD y)).bin fun k => (o.fd δ).bin fun x => (asDK x).bin fun kvs => .ok (.d (.bl (!(valD kvs k).isSome)))
  ok K hk W δ := by
    cases h1 : i.fd δ with
    | ok y =>
      cases h2 : keyD y with
      | some k =>
        cases h3 : o.fd δ with
        | ok x =>
          cases h4 : asDK x with
          | ok kvs =>
            simp only [M.ok_bin, h2, h3, M.of_some, h4]
            have e := asDK_to h4
            subst e
            exact ev_dnotin (i.okD hk h1) (o.okD hk h3) h2
          | _ => simp only [M.ok_bin, h2, h3, M.of_some, h4]; trivial
        | _ => simp only [M.ok_bin, h2, h3, M.of_some]; trivial
      | none => simp only [M.ok_bin, h2]; trivial
    | _ => trivial
/-- a test by `in` of a dict -/
def ST.ofB (e : SE Hy) : ST Hy where
  t K W := tB (e.t K W)
  f δ := (e.f δ).bin asB
  ok K hk W δ := by
    cases h : e.f δ with
    | ok s =>
      rw [M.ok_bin]
      cases h1 : asB s with
      | ok b =>
        have : s = .d (.bl b) := by
          cases s with
          | d x => cases x <;> cases h1; rfl
          | _ => cases h1
        subst this
        exact eb_B (e.okS hk h)
      | _ => trivial
    | _ => trivial
/-- d[k] = e, d a dict of one's own in slot i -/
def SS.dput (i : Nat) (kx e : SE Hy) : SS Hy where
  t K W := sDPut (tVar i) (kx.t K W) (e.t K W)
  f δ := Fl.exn (okD δ i) fun kvs => Fl.exn (e.fd δ) fun y => Fl.exn (kx.fd δ) fun x => Fl.exn (.of (keyD x)) fun k => if kvs.length < sizeLine then .nx (δ.set i (.okd (putKD kvs k y))) else .no
  ok K hk W δ := by
    cases h1 : okD δ i with
    | ok kvs =>
      cases h2 : e.fd δ with
      | ok y =>
        cases h3 : kx.fd δ with
        | ok x =>
          cases h4 : keyD x with
          | some k =>
            simp only [Fl.ok_exn, h4, M.of_some]
            by_cases z : kvs.length < sizeLine
            · rw [if_pos z]; exact sd_dput (okD_ok h1) (e.okD hk h2) (kx.okD hk h3) h4 z rfl
            · rw [if_neg z]; trivial
          | none => simp only [Fl.ok_exn, h4]; trivial
        | _ => trivial
      | _ => trivial
    | _ => trivial
/-- from here on the dict in slot i is data -/
theorem OKG.freezeAtK {K : PySem.W.Frag} {He Ge H G : Hp} {σ : St} {δ : List S} {kvs : List (Key × D)} {i : Nat} (ok : OKG K He Ge H G σ δ) (hi : δ[i]? = some (.okd kvs)) : ∃ G', OKG K He Ge H G' σ (δ.set i (.d (.dK kvs))) := by
  obtain ⟨o, eo, p, vs, rfl, h1, h2, h3, r⟩ := ok.sl i _ hi
  have hlt : i < δ.length := (List.getElem?_eq_some_iff.mp hi).1
  have g1 : Ex G (upd G p (.dK vs)) := .new h2
  refine ⟨upd G p (.dK vs), ok.ge.trans g1, ok.gh.lay h3, ok.he, ⟨fun b b1 b2 => ?_, ok.nc.t0, ok.nc.tb.mono (fun _ _ e => e) g1⟩, fun j s hj => ?_, fun j k s t p' hjk hj hk o1 o2 e1 e2 => ?_⟩
  · rw [upd_ne (fun z => b1 (by rw [z]; exact h1))]; exact ok.nc b b1 b2
  · by_cases z : i = j
    · subst z
      rw [List.getElem?_set_self hlt] at hj; cases hj
      exact ⟨_, eo, _, rfl, .dK upd_same (r.mono g1)⟩
    · rw [List.getElem?_set_ne z] at hj
      obtain ⟨o, e, k⟩ := ok.sl j s hj
      refine ⟨o, e, ?_⟩
      cases s with
      | un => trivial
      | ot _ _ _ => trivial
      | d x => obtain ⟨v, e1, r'⟩ := k; exact ⟨v, e1, r'.mono g1⟩
      | own ys =>
        obtain ⟨p2, vs2, rfl, k1, k2, k3, r2⟩ := k
        have ne : p2 ≠ p := fun y => ok.ne i j _ _ p z hi hj rfl rfl eo (by rw [← y]; exact e)
        exact ⟨p2, vs2, rfl, k1, by rw [upd_ne ne]; exact k2, k3, r2.mono g1⟩
      | okd ys =>
        obtain ⟨p2, vs2, rfl, k1, k2, k3, r2⟩ := k
        have ne : p2 ≠ p := fun y => ok.ne i j _ _ p z hi hj rfl rfl eo (by rw [← y]; exact e)
        exact ⟨p2, vs2, rfl, k1, by rw [upd_ne ne]; exact k2, k3, r2.mono g1⟩
      | oko ys =>
        obtain ⟨p2, vs2, rfl, k1, k2, k3⟩ := k
        have ne : p2 ≠ p := fun y => ok.ne i j _ _ p z hi hj rfl rfl eo (by rw [← y]; exact e)
        exact ⟨p2, vs2, rfl, k1, by rw [upd_ne ne]; exact k2, k3⟩
      | ob q C fs =>
        obtain ⟨a, dx, gs, rfl, kq, k1, k2, k3, k4, k5, k6, r'⟩ := k
        have n1 : a ≠ p := fun y => by rw [y, h3] at k5; cases k5
        have n2 : dx ≠ p := fun y => by rw [y, h3] at k6; cases k6
        exact ⟨a, dx, gs, rfl, kq, k1, by rw [upd_ne n1]; exact k2, k3, by rw [upd_ne n2]; exact k4, k5, k6, r'.mono g1⟩
  · have un : ∀ (m : Nat) (s : S), (δ.set i (.d (.dK kvs)))[m]? = some s → owned s = true → δ[m]? = some s := fun m s q1 q2 => by
      by_cases z : i = m
      · subst z; rw [List.getElem?_set_self hlt] at q1; cases q1; cases q2
      · rw [List.getElem?_set_ne z] at q1; exact q1
    exact ok.ne j k s t p' hjk (un j s hj o1) (un k t hk o2) o1 o2 e1 e2
def frzKF (m : M (List (Key × D))) (δ : List S) (i : Nat) (f : List S → Fl) : Fl := match m with | .ok xs => f (δ.set i (.d (.dK xs))) | _ => f δ
@[simp] theorem frzKF_ok {xs : List (Key × D)} {δ : List S} {i : Nat} {f : List S → Fl} : frzKF (.ok xs) δ i f = f (δ.set i (.d (.dK xs))) := (rfl)
def SS.frzK (i : Nat) (a : SS Hy) : SS Hy where
  t K W := a.t K W
  f δ := frzKF (okD δ i) δ i a.f
  ok K hk W δ := by
    cases h : okD δ i with
    | ok xs =>
      refine sdf_of fun n => fun He Ge H σ Dn ⟨G, ok⟩ nx r bk ct xx => ?_
      obtain ⟨G', ok'⟩ := ok.freezeAtK (okD_ok h)
      exact a.okR hk n He Ge H σ Dn ⟨G', ok'⟩ nx r bk ct xx
    | _ => exact a.ok K hk W δ
variable {δ : List S}
@[simp] theorem okD_s1 {s : S} {l : List S} {i : Nat} : okD (s :: l) (i + 1) = okD l i := okD_s
@[simp] theorem SP.nil_f : (SP.nil : SP Hy).f δ = .ok [] := (rfl)
@[simp] theorem SP.cons_f (a b : SE Hy) (r : SP Hy) : (SP.cons a b r).f δ = (a.fd δ).bin fun x => (M.of (keyD x)).bin fun k => (b.fd δ).bin fun y => (r.f δ).bin fun l => .ok ((k, y) :: l) := (rfl)
@[simp] theorem SE.disp_f (p : SP Hy) : (SE.disp p).f δ = (p.f δ).bin fun kvs => if kvs.length ≤ 15 then .ok (.okd (mergeKD [] kvs)) else .no := (rfl)
@[simp] theorem SE.dnewO_f : (SE.dnewO : SE Hy).f δ = .ok (.okd []) := (rfl)
@[simp] theorem SE.dget_f (o i : SE Hy) : (SE.dget o i).f δ = (o.fd δ).bin fun x => (asDK x).bin fun kvs => (i.fd δ).bin fun y => (M.of (keyD y)).bin fun k => (M.of (valD kvs k)).bin fun z => .ok (.d z) := (rfl)
@[simp] theorem SE.dget2_f (o i c : SE Hy) : (SE.dget2 o i c).f δ = (o.fd δ).bin fun x => (asDK x).bin fun kvs => (i.fd δ).bin fun y => (M.of (keyD y)).bin fun k => (c.fd δ).bin fun z => .ok (.d ((valD kvs k).getD z)) := (rfl)
@[simp] theorem SE.din_f (i o : SE Hy) : (SE.din i o).f δ = (i.fd δ).bin fun y => (M.of (keyD y)).bin fun k => (o.fd δ).bin fun x => (asDK x).bin fun kvs => .ok (.d (.bl (valD kvs k).isSome)) := (rfl)
@[simp] theorem SE.dnotin_f (i o : SE Hy) : (SE.dnotin i o).f δ = (i.fd δ).bin fun y => (M.of (keyD y)).bin fun k => (o.fd δ).bin fun x => (asDK x).bin fun kvs => .ok (.d (.bl (!(valD kvs k).isSome))) := (rfl)
@[simp] theorem SS.dput_f (i : Nat) (kx e : SE Hy) : (SS.dput i kx e).f δ = Fl.exn (okD δ i) fun kvs => Fl.exn (e.fd δ) fun y => Fl.exn (kx.fd δ) fun x => Fl.exn (.of (keyD x)) fun k => if kvs.length < sizeLine then .nx (δ.set i (.okd (putKD kvs k y))) else .no := (rfl)
@[simp] theorem ST.ofB_f (e : SE Hy) : (ST.ofB e).f δ = (e.f δ).bin asB := (rfl)
@[simp] theorem SS.frzK_f (i : Nat) (a : SS Hy) : (SS.frzK i a).f δ = frzKF (okD δ i) δ i a.f := (rfl)
@[simp] theorem keyD_int {i : Int} : keyD (.int i) = some (.inl i) := (rfl)
@[simp] theorem keyD_str {x : Str} : keyD (.str x) = some (.inr x) := (rfl)
@[simp] theorem toD_okdS {kvs : List (Key × D)} : toD (.okd kvs) = .ok (.dK kvs) := (rfl)
@[simp] theorem isi_exc_tup {T : Tab} {C : Addr} {cs : List D} (h : C ∈ T.exc) : isiF T [.exc C [], .tup cs] = (anyI T (.inl C) cs).map fun b => .d (.bl b) := by
  have e : tyOf T (.exc C []) = some (.inl C) := if_pos h
  show (tyOf T (.exc C [])).bind (fun t => (anyI T t cs).map fun b => S.d (.bl b)) = _
  rw [e]; rfl
@[simp] theorem anyI_nil {T : Tab} {t : Addr ⊕ String} : anyI T t [] = some false := (rfl)
@[simp] theorem anyI_cls {T : Tab} {C A : Addr} {r : List D} : anyI T (.inl C) (.cls A :: r) = match find2 T.cc C A with | some true => if r.all isCls = true then some true else none | some false => anyI T (.inl C) r | none => none := (rfl)
end
end Far
/-! Calls of a local name that holds one of some defs. -/
namespace Far
open PySem L2
abbrev FTab := List (Addr × (List D → M S))
def tabS (K : PySem.W.Frag) (Fs : FTab) : Addr → Option Sp := fun f => (Fs.lookup f).map fun F => spD K (RF F)
section
variable {K : PySem.W.Frag} {δ : List S}
theorem ev_callA {i : Nat} {q : Addr} {Fs : FTab} {F : List D → M S} {tr : TA} {xs : List D} {s : S} (hi : δ[i]? = some (.d (.cls q))) (hf : Fs.lookup q = some F) (h : EA K tr δ xs) (hr : F xs = .ok s) : EV K (tCallA i (tabS K Fs) tr) δ s := by
  intro He Ge H τo τs σ hl ok Q q0
  obtain ⟨G, okk⟩ := id ok
  obtain ⟨e1, e2⟩ := len_append (d := δ) (c := σ) hl i
  obtain ⟨o, eo, v, rfl, r⟩ := okk.sl (τs.length + i) _ (e1.trans hi)
  cases r
  refine ⟨q, spD K (RF F), e2.symm.trans eo, by unfold tabS; rw [hf]; rfl, ?_⟩
  refine h He Ge H τo τs σ hl ok _ fun vs H1 G1 ok1 r1 => ?_
  exact sp_ret ok1 r1 (.inl ⟨s, hr, rfl⟩) q0
end
section
variable {Hy : PySem.W.Frag → Prop}
def asCls : S → M Addr | .d (.cls q) => .ok q | _ => .no
@[simp] theorem asCls_c {q : Addr} : asCls (.d (.cls q)) = .ok q := (rfl)
theorem asCls_to {s : S} {q : Addr} (h : asCls s = .ok q) : s = .d (.cls q) := by
  cases s with
  | d x => cases x <;> cases h; rfl
  | _ => cases h
def SE.callA (i : Nat) (Fs : FTab) (a : SA Hy) : SE Hy where
  t K W := tCallA i (tabS K Fs) (a.t K W)
  f δ := (gt δ i).bin fun s => (asCls s).bin fun q => (M.of (Fs.lookup q)).bin fun F => (a.f δ).bin fun xs => (F xs).bin .ok
  ok K hk W δ := by
    cases h1 : gt δ i with
    | ok s =>
      obtain ⟨x, rfl, hx⟩ := gt_ok h1
      cases h2 : asCls (.d x) with
      | ok q =>
        have e := asCls_to h2
        cases e
        cases h3 : Fs.lookup q with
        | some F =>
          cases h4 : a.f δ with
          | ok xs =>
            cases h5 : F xs with
            | ok s => simp only [M.ok_bin, h2, h3, M.of_some, h4, h5]; exact ev_callA hx h3 (a.okA hk h4) h5
            | _ => simp only [M.ok_bin, h2, h3, M.of_some, h4, h5]; trivial
          | _ => simp only [M.ok_bin, h2, h3, M.of_some, h4]; trivial
        | none => simp only [M.ok_bin, h2, h3]; trivial
      | _ => simp only [M.ok_bin, h2]; trivial
    | _ => trivial
@[simp] theorem SE.callA_f (i : Nat) (Fs : FTab) (a : SA Hy) (δ : List S) : (SE.callA i Fs a).f δ = (gt δ i).bin fun s => (asCls s).bin fun q => (M.of (Fs.lookup q)).bin fun F => (a.f δ).bin fun xs => (F xs).bin .ok := (rfl)
end
section
variable {P : Program} {w : World} {K : PySem.W.Frag} {mg : Str → Option Value} {base : Heap} {k : Nat}
theorem held_nil : ∀ f sp, tabS K [] f = some sp → Held P w K mg base k f sp := fun f sp h => nomatch h
theorem held_cons {a b : Addr} {fd : FuncData} {ps : List Str} {F : List D → M S} {Fs : FTab} (o : FnOk P w K mg base CX0 k b fd ps (spD K (RF F))) (kp : PySem.W.keepIn K (.ref b) = true) (hb : Binds K fd ps []) (e : b = a) (r : ∀ f sp, tabS K Fs f = some sp → Held P w K mg base k f sp) : ∀ f sp, tabS K ((a, F) :: Fs) f = some sp → Held P w K mg base k f sp := fun f sp h => by
  subst e
  unfold tabS at h
  rw [List.lookup_cons] at h
  by_cases q : f = b
  · subst q
    rw [beq_self_eq_true] at h
    cases h
    exact ⟨⟨fd, ps, o, kp, hb⟩⟩
  · have q' : (f == b) = false := by simpa using q
    rw [q'] at h
    exact r f sp h
end
end Far
/-! range with a step; slices of the script. -/
namespace Far
open PySem L2
def rg3 (lo c : Int) (n : Nat) : List D := (List.range n).map fun (i : Nat) => D.int (lo + (i : Int) * c)
def rg3V (lo c : Int) (n : Nat) : List V := (List.range n).map fun (i : Nat) => V.int (lo + (i : Int) * c)
theorem rg3_len (lo c : Int) (n : Nat) : (rg3 lo c n).length = n := by unfold rg3; simp
theorem rg3_get {lo c : Int} {n i : Nat} {y : D} (h : (rg3 lo c n)[i]? = some y) : i < n ∧ y = .int (lo + (i : Int) * c) := by
  unfold rg3 at h
  rw [List.getElem?_map, Option.map_eq_some_iff] at h
  obtain ⟨k, hk, rfl⟩ := h
  obtain ⟨h1, h2⟩ := List.getElem?_eq_some_iff.mp hk
  rw [List.getElem_range] at h2
  subst h2
  exact ⟨by simpa using h1, rfl⟩
section
variable {K : PySem.W.Frag} {δ : List S} {te : TE} {xs : List D} {tl th : TO} {lo hi : Option Int}
theorem jis_rng3 {G : Hp} {lo c : Int} {n : Nat} : JIs G (Itc lo c n) (rg3V lo c n) := fun H e =>
  ⟨fun i hi => by show i < n; simpa [rg3V] using hi, fun i x H' q => ⟨q.1, fun hi => by
    have hi' : i < n := by simpa [rg3V] using hi
    rw [q.2]; unfold rg3V; rw [List.getElem?_map, List.getElem?_range hi']; rfl⟩, fun i hi => by show n ≤ i; simpa [rg3V] using hi⟩
theorem ei_rng3 {i j c : Int} {n : Nat} {tr : TA} (h : EA K tr δ [.int i, .int j, .int c]) (hc : RgC i j c n) : EI K (iRng3 tr) δ (rg3 i c n) := by
  intro He Ge H τo τs σ hl ok R q
  refine h He Ge H τo τs σ hl ok _ fun vs H1 G ok1 r1 => ?_
  cases r1 with
  | cons r1 r2 =>
    cases r1
    cases r2 with
    | cons r2 r3 =>
      cases r2
      cases r3 with
      | cons r3 r4 => cases r3; cases r4; exact ⟨i, j, c, n, rfl, hc, q _ H1 G ok1 (jig_of (rp_ints _ _) jis_rng3)⟩
theorem ev_slScr (h : EV K te δ (.d (.scr xs))) (h1 : EO K tl δ lo) (h2 : EO K th δ hi) : EV K (tSl (rSlU K) te tl th) δ (.own (cutD xs lo hi)) := ev_slG h h1 h2 fun He Ge H G σ δ v ok r Q q => by
  cases r with
  | scr hh rr => exact .inl ⟨_, _, rfl, ok.gh.l hh, fun p hp => q _ _ (doneL ok hp (rr.cut lo hi))⟩
end
section
variable {Hy : PySem.W.Frag → Prop}
def rng3F (xs : List D) : M (List D) := match xs with
  | [.int i, .int j, .int c] => if 0 ≤ i ∧ i ≤ j ∧ j ≤ 1000000 ∧ 0 < c ∧ c ≤ 1000000 then .ok (rg3 i c ((j - i + c - 1) / c).toNat) else .no
  | _ => .no
theorem rgC_small {i j c : Int} (h : 0 ≤ i ∧ i ≤ j ∧ j ≤ 1000000 ∧ 0 < c ∧ c ≤ 1000000) : RgC i j c ((j - i + c - 1) / c).toNat := by
  obtain ⟨h1, h2, h3, h4, h5⟩ := h
  have sz : Builtin.Range.rangeSize i j c = (j - i + c - 1) / c := by
    unfold Builtin.Range.rangeSize
    rw [if_pos (by omega)]
    by_cases e : i < j
    · rw [if_pos e, show j - i + c - 1 = (j - i - 1) + 1 * c by omega, Int.add_mul_ediv_right _ _ (by omega)]
    · rw [if_neg e, show j - i + c - 1 = c - 1 by omega, Int.ediv_eq_zero_of_lt (by omega) (by omega)]
  have b0 : 0 ≤ (j - i + c - 1) / c := Int.ediv_nonneg (by omega) (by omega)
  have b1 : (j - i + c - 1) / c ≤ j - i + c - 1 := Int.ediv_le_self _ (by omega)
  refine ⟨by omega, by omega, ?_, by rw [sz]; omega⟩
  have fl : ∀ x : Int, 0 ≤ x → x ≤ 3000000 → Builtin.Range.rangeFitsLong x = true := fun x a b => by
    unfold Builtin.Range.rangeFitsLong
    simp
    omega
  unfold Builtin.Range.small
  rw [sz, fl i h1 (by omega), fl j (by omega) (by omega), fl c (by omega) (by omega), fl _ b0 (by omega), if_pos (by omega), fl (j + (c - 1)) (by omega) (by omega)]
  simp
def SI.rng3 (a : SA Hy) : SI Hy where
  t K W := iRng3 (a.t K W)
  f δ := (a.f δ).bin rng3F
  ok K hk W δ := by
    cases h : a.f δ with
    | ok xs =>
      rw [M.ok_bin]
      unfold rng3F
      split
      · split
        · rename_i q; exact ei_rng3 (a.okA hk h) (rgC_small q)
        · trivial
      · trivial
    | _ => trivial
@[simp] theorem SI.rng3_f (a : SA Hy) (δ : List S) : (SI.rng3 a).f δ = (a.f δ).bin rng3F := (rfl)
theorem rng3F_i {i j c : Int} (h : 0 ≤ i ∧ i ≤ j ∧ j ≤ 1000000 ∧ 0 < c ∧ c ≤ 1000000) : rng3F [.int i, .int j, .int c] = .ok (rg3 i c ((j - i + c - 1) / c).toNat) := if_pos h
def cutSF (x : D) (lo hi : Option Int) : M S := match x with | .scr xs => .ok (.own (cutD xs lo hi)) | _ => .no
@[simp] theorem cutSF_s {xs : List D} {lo hi : Option Int} : cutSF (.scr xs) lo hi = .ok (.own (cutD xs lo hi)) := (rfl)
def SE.slS (a : SE Hy) (lo hi : SO Hy) : SE Hy where
  t K W := tSl (rSlU K) (a.t K W) (lo.t K W) (hi.t K W)
  f δ := (a.fd δ).bin fun x => (lo.f δ).bin fun l => (hi.f δ).bin fun h => cutSF x l h
  ok K hk W δ := by
    cases h1 : a.fd δ with
    | ok x =>
      cases h2 : lo.f δ with
      | ok l =>
        cases h3 : hi.f δ with
        | ok h =>
          simp only [M.ok_bin]
          cases x with
          | scr xs => exact ev_slScr (a.okD hk h1) (lo.okO hk h2) (hi.okO hk h3)
          | _ => trivial
        | _ => trivial
      | _ => trivial
    | _ => trivial
@[simp] theorem SE.slS_f (a : SE Hy) (lo hi : SO Hy) (δ : List S) : (SE.slS a lo hi).f δ = (a.fd δ).bin fun x => (lo.f δ).bin fun l => (hi.f δ).bin fun h => cutSF x l h := (rfl)
end
end Far
/-! a tuple handed back that holds a list of one's own, and taken apart at once. -/
namespace Far
open PySem L2
section
variable {K : PySem.W.Frag} {δ : List S} {te : TE} {tr : TA} {x : D} {A xs B : List D}
def EAO (K : PySem.W.Frag) (ta : TA) (δ : List S) (A xs B : List D) : Prop := ∀ (He Ge H : Hp) (τo : L2.St) (τs : List S) (σ : L2.St), τo.length = τs.length → OK K He Ge H (τo ++ σ) (τs ++ δ) →
  ∀ Q : List V → Hp → Prop, (∀ (vs us ws : List V) (q : Addr) (H' G' : Hp), OKG K He Ge H' G' (τo ++ σ) (τs ++ δ) → RpL K G' A vs → RpL K G' B ws → He q = none → G' q = none → H' q = some (.lst us) → RpL K G' xs us → Q (vs ++ .ref q :: ws) H') → ta σ H Q
theorem eao_here (h : EV K te δ (.own xs)) (hr : EA K tr δ B) : EAO K (tCons te tr) δ [] xs B := by
  intro He Ge H τo τs σ hl ok Q q
  refine h He Ge H τo τs σ hl ok _ fun v H1 ok1 => ?_
  refine hr He Ge H1 (some v :: τo) (.own xs :: τs) σ (by simp [hl]) ok1 _ fun ws H2 G2 ok2 rw_ => ?_
  obtain ⟨p, us, e, h1, h2, h3, r⟩ := ok2.top
  cases e
  exact q [] us ws p H2 G2 ok2.pop .nil rw_ h1 h2 h3 r
theorem eao_cons (h : EV K te δ (.d x)) (hr : EAO K tr δ A xs B) : EAO K (tCons te tr) δ (x :: A) xs B := by
  intro He Ge H τo τs σ hl ok Q q
  refine h He Ge H τo τs σ hl ok _ fun v H1 ok1 => ?_
  refine hr He Ge H1 (some v :: τo) (.d x :: τs) σ (by simp [hl]) ok1 _ fun vs us ws p H2 G2 ok2 r1 r2 h1 h2 h3 r => ?_
  obtain ⟨_, e, rx⟩ := ok2.top
  cases e
  exact q (v :: vs) us ws p H2 G2 ok2.pop (.cons rx r1) r2 h1 h2 h3 r
theorem sd_retT {W : WX} {N Bk Ct : List S → Prop} {Rt : S → List S → Prop} {Xc : List S → Addr → List (Str × D) → Prop} (h : EAO K tr δ A xs B) (hz : A.length + (B.length + 1) ≤ sizeLine) (r : Rt (.ot A xs B) δ) : SD K W (tRet (tTupP tr)) δ N Rt Bk Ct Xc := fun He Ge H σ Dn ok nx rt bk ct xx => by
  refine h He Ge H [] [] σ rfl ok _ fun vs us ws q H1 G1 ok1 r1 r2 h1 h2 h3 r3 => ⟨by rw [List.length_append, List.length_cons, ← r1.length, ← r2.length]; exact hz, fun p o hp hc hd => ?_⟩
  have ne : q ≠ p := fun z => by rw [z, hp] at h3; cases h3
  have ok2 : OKG K He Ge (upd H1 p (.frz o (.tup (vs ++ .ref q :: ws)))) G1 (some (.ref p) :: σ) (.ot A xs B :: δ) := OKG.push (OKG.newH ok1 hp) trivial (fun z => nomatch z)
  exact rt _ _ σ δ _ ⟨G1, ok2, p, q, vs, us, ws, rfl, ⟨ok1.he.none hp, o, upd_same, hc, hd⟩, r1, r2, h1, h2, by rw [upd_ne ne]; exact h3, r3⟩ r
/-- names that take such a tuple apart -/
def ETo (K : PySem.W.Frag) (gs : TGs) (δ : List S) (A xs B : List D) (δ' : List S) : Prop := ∀ (He Ge H G : Hp) (σ : L2.St) (vs us ws : List V) (q : Addr), OKG K He Ge H G σ δ → RpL K G A vs → RpL K G B ws → He q = none → G q = none → H q = some (.lst us) → RpL K G xs us →
  (∀ (j : Nat) (t : S), δ[j]? = some t → owned t = true → σ[j]? ≠ some (some (.ref q))) → ∀ Q : L2.St → Hp → Prop, (∀ σ', OKG K He Ge H G σ' δ' → Q σ' H) → gs (vs ++ .ref q :: ws) σ H Q
theorem own_keep {i q : Nat} {s : S} {o : Option V} {σ : L2.St} (hk : ∀ (j : Nat) (t : S), δ[j]? = some t → owned t = true → σ[j]? ≠ some (some (.ref q))) (hs : owned s = false) : ∀ (j : Nat) (t : S), (δ.set i s)[j]? = some t → owned t = true → (σ.set i o)[j]? ≠ some (some (.ref q)) := fun j t e ho => by
  by_cases z : i = j
  · subst z
    have hl : i < δ.length := by
      have := (List.getElem?_eq_some_iff.mp e).1
      rwa [List.length_set] at this
    rw [List.getElem?_set_self hl] at e; cases e; rw [hs] at ho; cases ho
  · rw [List.getElem?_set_ne z] at e ⊢
    exact hk j t e ho
theorem eto_here {i : Nat} {gs : TGs} {δ' : List S} (hi : i < δ.length) (h : ETs K gs (δ.set i (.own xs)) B δ') : ETo K (gCons (gName i) gs) δ [] xs B δ' := by
  intro He Ge H G σ vs us ws q ok r1 r2 h1 h2 h3 r3 hk Q k
  cases r1
  have ok1 : OKG K He Ge H G (some (.ref q) :: σ) (.own xs :: δ) := ok.push ⟨q, us, rfl, h1, h2, h3, r3⟩ fun _ j t p e hj ho eσ => by
    cases e; exact hk j t hj ho eσ
  exact ⟨_, _, rfl, ets_run h He Ge H G [] [] _ ws rfl (ok1.store hi) r2 Q k⟩
theorem eto_cons {i : Nat} {gs : TGs} {δ' : List S} (hi : i < δ.length) (h : ETo K gs (δ.set i (.d x)) A xs B δ') : ETo K (gCons (gName i) gs) δ (x :: A) xs B δ' := by
  intro He Ge H G σ vs us ws q ok r1 r2 h1 h2 h3 r3 hk Q k
  cases r1 with
  | cons rx r1 =>
    have ok1 := ok.pushD rx
    exact ⟨_, _, rfl, h He Ge H G _ _ us ws q (ok1.store hi) r1 r2 h1 h2 h3 r3 (own_keep hk rfl) Q k⟩
theorem sd_asgT {R : List D → Out → Prop} {E : XK} {W : WX} {N Bk Ct : List S → Prop} {Rt : S → List S → Prop} {Xc : List S → Addr → List (Str × D) → Prop} {gs : TGs} {n : Nat} {ys : List D} {δ' : List S} (h : EA K tr δ ys) (hr : R ys (.ret (.ot A xs B))) (hn : A.length + (B.length + 1) = n) (hg : ETo K gs δ A xs B δ') (nn : N δ') :
    SD K W (tAsg (tCall (spD K R) [] E tr) (gSeq K n gs)) δ N Rt Bk Ct Xc := fun He Ge H σ Dn ok nx rt bk ct xx => by
  refine h He Ge H [] [] σ rfl ok _ fun vs H1 G ok1 r1 => ?_
  refine ⟨G, ys, .ret (.ot A xs B), ⟨ok1.gh, ok1.nc.tb⟩, by simpa using r1, hr, fun v s' G' H' e g1 g2 g3 nc k ot => ?_, fun c fs cls d G' H' e => nomatch e⟩
  cases e
  obtain ⟨p, q, as, us, bs, rfl, ⟨_, o, sq, _, _⟩, ra, rb, h1, h2, h3, ru⟩ := ot
  have ok2 : OKG K He Ge H' G' σ δ := OKG.grow ok1 g3 g1 g2 nc
  refine .inl ⟨p, as ++ .ref q :: bs, rfl, .inl (.inr ⟨o, sq⟩), by rw [List.length_append, List.length_cons, ← ra.length, ← rb.length]; exact hn, ?_⟩
  refine hg He Ge H' G' σ as us bs q ok2 ra rb (ok1.he.none h1) h2 h3 ru (fun j t ej ho eq => ?_) _ fun σ' ok3 => nx _ _ _ ⟨G', ok3⟩ nn
  have ok1' : OKG K He Ge H1 G σ δ := ok1
  obtain ⟨o, eo, kk⟩ := ok1'.sl j t ej
  rw [eo] at eq
  cases eq
  cases t with
  | un => cases ho
  | ot _ _ _ => cases ho
  | d x => cases ho
  | own zs => obtain ⟨p', vs', e, _, _, z3, _⟩ := kk; cases e; rw [h1] at z3; cases z3
  | okd zs => obtain ⟨p', vs', e, _, _, z3, _⟩ := kk; cases e; rw [h1] at z3; cases z3
  | oko zs => obtain ⟨p', vs', e, _, _, z3⟩ := kk; cases e; rw [h1] at z3; cases z3
  | ob q C fs => obtain ⟨a, dx, gs, e, _, _, _, _, _, z5, _⟩ := kk; cases e; rw [h1] at z5; cases z5
end
section
variable {Hy : PySem.W.Frag → Prop}
variable (Hy) in
structure SAo where
  t : PySem.W.Frag → WX → TA
  f : List S → Option (List D × List D × List D)
  ok : ∀ K, Hy K → ∀ W δ A xs B, f δ = some (A, xs, B) → EAO K (t K W) δ A xs B
def SAo.here (e : SE Hy) (r : SA Hy) : SAo Hy where
  t K W := tCons (e.t K W) (r.t K W)
  f δ := match e.f δ, r.f δ with | .ok (.own xs), .ok B => some ([], xs, B) | _, _ => none
  ok K hk W δ A xs B h := by
    cases h1 : e.f δ with
    | ok s =>
      cases s with
      | own ys =>
        cases h2 : r.f δ with
        | ok zs =>
          simp only [h1, h2] at h
          cases h
          exact eao_here (e.okS hk h1) (r.okA hk h2)
        | no => simp only [h1, h2] at h; cases h
        | ex c fs => simp only [h1, h2] at h; cases h
      | _ => simp only [h1] at h; cases h
    | no => simp only [h1] at h; cases h
    | ex c fs => simp only [h1] at h; cases h
def SAo.cons (e : SE Hy) (r : SAo Hy) : SAo Hy where
  t K W := tCons (e.t K W) (r.t K W)
  f δ := match e.fd δ, r.f δ with | .ok x, some (A, xs, B) => some (x :: A, xs, B) | _, _ => none
  ok K hk W δ A xs B h := by
    cases h1 : e.fd δ with
    | ok s =>
      cases h2 : r.f δ with
      | some z =>
        obtain ⟨A', xs', B'⟩ := z
        simp only [h1, h2] at h
        cases h
        exact eao_cons (e.okD hk h1) (r.ok K hk W δ _ _ _ h2)
      | none => simp only [h1, h2] at h; cases h
    | no => simp only [h1] at h; cases h
    | ex c fs => simp only [h1] at h; cases h
def otR (o : Option (List D × List D × List D)) : Fl := match o with
  | some (A, xs, B) => if A.length + (B.length + 1) ≤ sizeLine then .rt (.ot A xs B) else .no
  | none => .no
def SS.retT (a : SAo Hy) : SS Hy where
  t K W := tRet (tTupP (a.t K W))
  f δ := otR (a.f δ)
  ok K hk W δ := by
    cases h : a.f δ with
    | none => trivial
    | some z =>
      obtain ⟨A, xs, B⟩ := z
      by_cases q : A.length + (B.length + 1) ≤ sizeLine
      · show SDF K W _ δ (if A.length + (B.length + 1) ≤ sizeLine then Fl.rt (.ot A xs B) else .no)
        rw [if_pos q]
        exact sd_retT (a.ok K hk W δ _ _ _ h) q (.inl rfl)
      · show SDF K W _ δ (if A.length + (B.length + 1) ≤ sizeLine then Fl.rt (.ot A xs B) else .no)
        rw [if_neg q]; trivial
variable (Hy) in
structure SGo where
  t : PySem.W.Frag → WX → TGs
  f : List S → List D → List D → List D → Option (List S)
  ok : ∀ K, Hy K → ∀ W δ A xs B δ', f δ A xs B = some δ' → ETo K (t K W) δ A xs B δ'
def SGo.here (i : Nat) (r : SGs Hy) : SGo Hy where
  t K W := gCons (gName i) (r.t K W)
  f δ A xs B := match A with | [] => (if i < δ.length then r.f (δ.set i (.own xs)) B else none) | _ => none
  ok K hk W δ A xs B δ' h := by
    cases A with
    | nil =>
      by_cases z : i < δ.length
      · simp only [if_pos z] at h
        have q := r.ok K hk W (δ.set i (.own xs)) B
        rw [h] at q
        exact eto_here z q
      · simp only [if_neg z] at h; cases h
    | cons a A => cases h
def SGo.cons (i : Nat) (r : SGo Hy) : SGo Hy where
  t K W := gCons (gName i) (r.t K W)
  f δ A xs B := match A with | x :: A => (if i < δ.length then r.f (δ.set i (.d x)) A xs B else none) | [] => none
  ok K hk W δ A xs B δ' h := by
    cases A with
    | nil => cases h
    | cons a A =>
      by_cases z : i < δ.length
      · simp only [if_pos z] at h
        exact eto_cons z (r.ok K hk W _ _ _ _ _ h)
      · simp only [if_neg z] at h; cases h
def asgTF (n : Nat) (r : List S → List D → List D → List D → Option (List S)) (δ : List S) (m : M S) : Fl := match m with
  | .ok (.ot A xs B) => if A.length + (B.length + 1) = n then (match r δ A xs B with | some δ' => .nx δ' | none => .no) else .no
  | _ => .no
def SS.asgT (F : List D → M S) (a : SA Hy) (n : Nat) (r : SGo Hy) : SS Hy where
  t K W := tAsg (tCall (spD K (RF F)) [] E0 (a.t K W)) (gSeq K n (r.t K W))
  f δ := match a.f δ with | .ok ys => asgTF n r.f δ (F ys) | _ => .no
  ok K hk W δ := by
    cases h : a.f δ with
    | no => trivial
    | ex c fs => trivial
    | ok ys =>
      show SDF K W _ δ (asgTF n r.f δ (F ys))
      cases h2 : F ys with
      | no => trivial
      | ex c fs => trivial
      | ok s =>
        cases s with
        | ot A xs B =>
          by_cases z : A.length + (B.length + 1) = n
          · show SDF K W _ δ (if A.length + (B.length + 1) = n then (match r.f δ A xs B with | some δ' => Fl.nx δ' | none => .no) else .no)
            rw [if_pos z]
            cases h3 : r.f δ A xs B with
            | none => trivial
            | some δ' => exact sd_asgT (a.okA hk h) (.inl ⟨_, h2, rfl⟩) z (r.ok K hk W δ _ _ _ _ h3) rfl
          · show SDF K W _ δ (if A.length + (B.length + 1) = n then (match r.f δ A xs B with | some δ' => Fl.nx δ' | none => .no) else .no)
            rw [if_neg z]; trivial
        | _ => trivial
variable {δ : List S}
@[simp] theorem SAo.here_f (e : SE Hy) (r : SA Hy) : (SAo.here e r).f δ = match e.f δ, r.f δ with | .ok (.own xs), .ok B => some ([], xs, B) | _, _ => none := (rfl)
@[simp] theorem SAo.cons_f (e : SE Hy) (r : SAo Hy) : (SAo.cons e r).f δ = match e.fd δ, r.f δ with | .ok x, some (A, xs, B) => some (x :: A, xs, B) | _, _ => none := (rfl)
@[simp] theorem SS.retT_f (a : SAo Hy) : (SS.retT a).f δ = otR (a.f δ) := (rfl)
@[simp] theorem otR_some {A xs B : List D} : otR (some (A, xs, B)) = if A.length + (B.length + 1) ≤ sizeLine then .rt (.ot A xs B) else .no := (rfl)
@[simp] theorem SGo.here_f (i : Nat) (r : SGs Hy) {xs B : List D} : (SGo.here i r).f δ [] xs B = if i < δ.length then r.f (δ.set i (.own xs)) B else none := (rfl)
@[simp] theorem SGo.cons_f (i : Nat) (r : SGo Hy) {x : D} {A xs B : List D} : (SGo.cons i r).f δ (x :: A) xs B = if i < δ.length then r.f (δ.set i (.d x)) A xs B else none := (rfl)
@[simp] theorem SS.asgT_f (F : List D → M S) (a : SA Hy) (n : Nat) (r : SGo Hy) : (SS.asgT F a n r).f δ = match a.f δ with | .ok ys => asgTF n r.f δ (F ys) | _ => .no := (rfl)
@[simp] theorem asgTF_ot {n : Nat} {r : List S → List D → List D → List D → Option (List S)} {A xs B : List D} : asgTF n r δ (.ok (.ot A xs B)) = if A.length + (B.length + 1) = n then (match r δ A xs B with | some δ' => .nx δ' | none => .no) else .no := (rfl)
@[simp] theorem retS_ot' {A xs B : List D} : retS (.ot A xs B) = .no := (rfl)
end
end Far
/-! one of a tuple and a list of one's own handed back, picked from a list of both. -/
namespace Far
open PySem L2
def tPick (K : PySem.W.Frag) (te : TE) (i j : Nat) (m : Int) : TE := tOp (rIx K) (tLst (tCons te (tCons (tVar i) tNil))) (tOp (rI (fun _ j => 0 < j) fun i j => .int (i % j)) (tVar j) (tC (.int m)))
section
variable {K : PySem.W.Frag} {δ : List S} {te : TE} {x : D} {xs : List D} {i j : Nat} {m n : Int} {W : WX} {N B Ct : List S → Prop} {Rt : S → List S → Prop} {Xc : List S → Addr → List (Str × D) → Prop}
theorem sd_pick0 (h : EV K te δ (.d x)) (hi : δ[i]? = some (.own xs)) (hj : δ[j]? = some (.d (.int n))) (hm : 0 < m) (e : n % m = 0) (r : ∀ d, Rt (.d x) d) : SD K W (tRet (tPick K te i j m)) δ N Rt B Ct Xc := fun He Ge H σ Dn ok nx rt bk ct xx => by
  refine ev0 h ok fun v H1 ⟨G, ok1⟩ => ?_
  obtain ⟨o, eo, p, us, rfl, h1, h2, h3, ru⟩ := ok1.pop.sl i _ hi
  obtain ⟨o, ej, v2, rfl, rj⟩ := ok1.pop.sl j _ hj
  cases rj
  refine ⟨_, eo, by rw [sizeLine_eq]; show 2 ≤ _; omega, fun q hq => ⟨_, ej, n, m, rfl, rfl, hm, ?_⟩⟩
  refine .inl ⟨q, [v, .ref p], n % m, v, rfl, rfl, SqL.of upd_same, by rw [e]; rfl, ?_⟩
  exact rt _ _ σ δ _ ⟨G, ok1.newH hq, trivial⟩ (r _)
theorem sd_pick1 (h : EV K te δ (.d x)) (hi : δ[i]? = some (.own xs)) (hj : δ[j]? = some (.d (.int n))) (hm : 0 < m) (e : n % m = 1) (r : ∀ d, Rt (.own xs) d) : SD K W (tRet (tPick K te i j m)) δ N Rt B Ct Xc := fun He Ge H σ Dn ok nx rt bk ct xx => by
  refine ev0 h ok fun v H1 ⟨G, ok1⟩ => ?_
  obtain ⟨o, eo, p, us, rfl, h1, h2, h3, ru⟩ := ok1.pop.sl i _ hi
  obtain ⟨o, ej, v2, rfl, rj⟩ := ok1.pop.sl j _ hj
  cases rj
  refine ⟨_, eo, by rw [sizeLine_eq]; show 2 ≤ _; omega, fun q hq => ⟨_, ej, n, m, rfl, rfl, hm, ?_⟩⟩
  refine .inl ⟨q, [v, .ref p], n % m, .ref p, rfl, rfl, SqL.of upd_same, by rw [e]; rfl, ?_⟩
  exact rt _ _ σ _ _ ⟨G, (ok1.pop.newH hq).handO hi eo, trivial⟩ (r _)
end
section
variable {K : PySem.W.Frag} {δ : List S} {xs : List D} {i : Nat}
theorem ev_tupO (hi : δ[i]? = some (.own xs)) : EV K (tCB (rTupU K) (tCons (tVar i) tNil)) δ (.d (.tup xs)) := by
  intro He Ge H τo τs σ hl ok Q q
  obtain ⟨G, ok⟩ := ok
  have hi2 : (τs ++ δ)[τs.length + i]? = some (.own xs) := by rw [List.getElem?_append_right (by omega)]; simpa using hi
  obtain ⟨o, eo, p, us, rfl, h1, h2, h3, ru⟩ := ok.sl _ _ hi2
  rw [← hl, List.getElem?_append_right (by omega)] at eo
  have eo2 : σ[i]? = some (some (.ref p)) := by simpa using eo
  refine ⟨_, eo2, p, us, rfl, .inl ⟨SqL.of h3, fun r o hr hc hd => ?_⟩⟩
  exact q _ _ ⟨_, (ok.newG hr).pushD (.tup (.inl ⟨o, upd_same, hc, hd⟩) (ru.mono (.new (ok.gh.none hr))))⟩
end
section
variable {Hy : PySem.W.Frag → Prop}
def dv : List S → Nat → Option D
  | .d x :: _, 0 => some x
  | _ :: l, i + 1 => dv l i
  | _, _ => none
theorem dv_ok : ∀ {δ : List S} {i : Nat} {x : D}, dv δ i = some x → δ[i]? = some (.d x)
  | [], i, s, h => by cases i <;> cases h
  | a :: l, 0, s, h => by cases a <;> cases h; rfl
  | a :: l, i + 1, s, h => by
    have e : dv (a :: l) (i + 1) = dv l i := by cases a <;> rfl
    rw [e] at h; simpa using dv_ok h
def pickF (xs : M (List D)) (n : Option D) (m : Int) : Fl := match xs, n with
  | .ok xs, some (.int n) => if 0 < m then (if n % m = 0 then .rt (.d (.tup xs)) else if n % m = 1 then .rt (.own xs) else .no) else .no
  | _, _ => .no
def SS.retP (i j : Nat) (m : Int) : SS Hy where
  t K W := tRet (tPick K (tCB (rTupU K) (tCons (tVar i) tNil)) i j m)
  f δ := pickF (ow δ i) (dv δ j) m
  ok K hk W δ := by
    unfold pickF
    split
    · split
      · split
        · rename_i h2 h3 hm e0
          exact sdf_of fun _ => sd_pick0 (ev_tupO (ow_ok h2)) (ow_ok h2) (dv_ok h3) hm e0 fun _ => .inl rfl
        · split
          · rename_i h2 h3 hm _ e1
            exact sdf_of fun _ => sd_pick1 (ev_tupO (ow_ok h2)) (ow_ok h2) (dv_ok h3) hm e1 fun _ => .inl rfl
          · trivial
      · trivial
    · trivial
@[simp] theorem SS.retP_f (i j : Nat) (m : Int) (δ : List S) : (SS.retP i j m : SS Hy).f δ = pickF (ow δ i) (dv δ j) m := (rfl)
@[simp] theorem dv_0 {x : D} {l : List S} : dv (.d x :: l) 0 = some x := (rfl)
@[simp] theorem dv_s {s : S} {l : List S} {i : Nat} : dv (s :: l) (i + 1) = dv l i := by cases s <;> rfl
@[simp] theorem pickF_ok {xs : List D} {n m : Int} : pickF (.ok xs) (some (.int n)) m = if 0 < m then (if n % m = 0 then .rt (.d (.tup xs)) else if n % m = 1 then .rt (.own xs) else .no) else .no := (rfl)
end
end Far
/-! A lambda of one parameter handed to a def: its making (the maker's table of code objects grows), its call over a base that holds it. -/
namespace Far
open PySem PySem.Spec PyProof.Rows L2
/-! ### the making -/
/-- from H to H3 a lambda's code object, at c, is found in the table at P, or laid and put there -/
def Made (P : Addr) (q : Str) (ps : Array Value) (H H3 : Hp) (c : Addr) : Prop :=
  (H3 = H ∧ ∃ at_, codeAmong at_ ps.toList = some (.ref c)) ∨
    ∃ l k : Int, H c = none ∧ H3 = upd (upd H P (.tbl (ps ++ #[rawInt l, rawInt k, .ref c]))) c (LamX.CodeO c q)
section
variable {X : Cx} {pins : List (Addr × Obj)} {σ : L2.St} {H : Hp} {s : Shared}
theorem lam_laid {c P : Addr} {ps : Array Value} {params : Arguments} {body : Expr} {scope : Scope} {lp : Pos} {Er : Value → Shared → Prop} {Q : Value → Shared → Prop} (I : Inv X pins σ H s)
    (TB : LamX.TabB X.base X.mg c P) (hc : X.env.code = .ref c) (hP : H P = some (.tbl ps)) (ht : TriplesOk ps.toList) (hr : ∀ at_ cv, codeAmong at_ ps.toList = some cv → ∃ b, cv = .ref b)
    (hd : defaultsOf params X.env = ([], [])) (hf : ∀ y ∈ scope.names, y.2 = .free → ∃ b, X.env.cells.lookup y.1 = some b)
    (k : ∀ (f c1 : Addr) (pm ctv : Value) (H3 : Hp) (s3 : Shared), Inv X pins σ H3 s3 → Made P (X.env.qual ++ "<lambda>") ps H H3 c1 →
      s3.heap.get? f = some (PySem.W.kla_obj "<lambda>" (X.env.qual ++ "<lambda>") params body scope (cloFrom X.env.cells scope.names []) pm c1 ctv) → H3 f = none → f ∉ frs X.stack → Q (.ref f) s3) :
    wpAny (model X.prog X.w) X.A (eval (.Lambda params body scope lp) X.env) Q Er s := by
  have tab := I.hok P _ hP
  have built := TB.bm.keeps I.bk
  have apart : ∀ f, s.heap.objs.size ≤ f → f ∉ frs X.stack := fun f hf z => by
    have lt := I.lt
    rcases List.mem_cons.mp (I.stkSub f z) with e | e
    · rw [← e] at lt; exact Nat.not_le_of_lt lt hf
    · exact I.nofs hf e
  refine PySem.W.kla_eval hd ?_
  cases found : codeAmong lp ps.toList with
  | some cv =>
    obtain ⟨b, rfl⟩ := hr lp cv found
    refine PySem.W.kla_makeFunctionHit (mg := X.mg) (P := P) (closure_ok hf) I.ok.glob (I.mod.glob.keeps I.bk) hc (TB.code.keeps I.bk) tab ht found built fun ctv g tk keep size => ?_
    refine k _ b _ ctv H _ (I.kept fun a o e => ?_) (.inl ⟨rfl, lp, found⟩) (Heap.get?_push_size _ rfl) (I.hok.fresh size) (apart _ size)
    exact Heap.get?_push_of_some _ (keep a o e)
  | none =>
    refine PySem.W.kla_makeFunction (mg := X.mg) (P := P) (closure_ok hf) I.ok.glob (I.mod.glob.keeps I.bk) hc (TB.code.keeps I.bk) tab ht found TB.gP built fun b ctv g tk ext ge lt rec_ tab2 => ?_
    obtain ⟨b', oc, vs, t, eb, g1, g2, g3⟩ := rec_
    cases eb
    have size : s.heap.objs.size ≤ g.objs.size := Nat.le_trans ge (Nat.le_of_lt lt)
    have nb : H b = none := I.hok.fresh ge
    have J := LamX.inv_table (c := b) (q := X.env.qual ++ "<lambda>") (t' := tk) (more := #[rawInt lp.line, rawInt lp.col, .ref b])
      (h' := g.push (PySem.W.kla_obj "<lambda>" (X.env.qual ++ "<lambda>") params body scope (cloFrom X.env.cells scope.names []) ((X.mg "__name__").getD .none) b ctv)) I hP
      (fun a o ne e => Heap.get?_push_of_some _ (ext a o ne e)) (Heap.get?_push_of_some _ tab2) ge ⟨oc, vs, t, Heap.get?_push_of_some _ g1, g2, g3⟩
    refine k _ b _ ctv _ _ J (.inr ⟨_, _, nb, rfl⟩) (Heap.get?_push_size _ rfl) ?_ (apart _ size)
    have n1 : g.objs.size ≠ b := Nat.ne_of_gt lt
    have n2 : g.objs.size ≠ P := Nat.ne_of_gt (Nat.lt_of_lt_of_le (Heap.lt_size tab) size)
    rw [upd_ne n1, upd_ne n2]
    exact I.hok.fresh size
end
/-! ### a base that holds a lambda -/
/-- the lambda at f, its code object at c, with the values cvs of the names cn in its cells -/
structure LamB (base : Heap) (q : Str) (params : Arguments) (body : Expr) (scope : Scope) (cn : List Str) (f c : Addr) (cvs : List V) : Prop where
  ex : ∃ (cl : List (Str × Addr)) (pm ctv : Value), base.get? f = some (PySem.W.kla_obj "<lambda>" q params body scope cl pm c ctv) ∧
    (∀ x b, cl.lookup x = some b → ∃ v, base.IsCell b v) ∧ (∀ x y b, cl.lookup x = some b → cl.lookup y = some b → x = y) ∧ (∀ x, scope.names.lookup x = some .free → ∃ b, cl.lookup x = some b) ∧
    cvs.length = cn.length ∧ ∀ (i : Nat) (x : Str) (v : V), cn[i]? = some x → cvs[i]? = some v → ∃ b u, cl.lookup x = some b ∧ RelV v u ∧ base.IsCell b (some u)
/-- the lambda's scope: one parameter, captured names -/
structure LamS1 (a : Str) (cn : List Str) (scope : Scope) : Prop where
  kind : scope.kind = .function
  co : scope.isCoroutine = false
  gen : scope.isGenerator = false
  par : scope.names.lookup a = some .local
  nocell : ∀ y ∈ scope.names, y.2 ≠ .cell
  free : ∀ x ∈ cn, scope.names.lookup x = some .free
abbrev lamEv (q : Str) (scope : Scope) (L f c : Addr) (cl : List (Str × Addr)) : Env := PySem.W.envX q scope L f (.ref c) cl
/-- the context of such a lambda's body -/
def cxL (P : Program) (w : World) (K : PySem.W.Frag) (mg : Str → Option Value) (base : Heap) (N : List Str) (ev : Env) (A : Around) (outer : List Env) (s : Shared) (H : Hp) (E : XK) : Cx where
  prog := P
  w := w
  K := K
  mg := mg
  base := base
  A := A.deeper ev
  N := N
  s_0 := s
  H_0 := H
  env := ev
  outer := outer
  stack := ev :: outer
  ex := []
  fn := fun _ => false
  calm := true
  pn := []
  xe := fun e s1 => wpAny (model P w) (A.deeper ev) (leaving ev e) (fun _ s2 => CX0 outer H s E e s2) (fun e2 s2 => CX0 outer H s E e2 s2) s1
section
variable {P : Program} {w : World} {K : PySem.W.Frag} {mg : Str → Option Value} {base : Heap} {k : Nat}
theorem lam_begin {q a : Str} {cn : List Str} {params : Arguments} {body : Expr} {scope : Scope} {f c : Addr} {pm ctv : Value} {cl : List (Str × Addr)} {cvs : List V} {A : Around} {outer : List Env} {s : Shared} {H : Hp} {E : XK} {v : V} {u : Value} {g : Heap} {tk : Nat}
    (Sc : LamS1 a cn scope) (hcell : ∀ x b, cl.lookup x = some b → ∃ v, base.IsCell b v) (hinj : ∀ x y b, cl.lookup x = some b → cl.lookup y = some b → x = y) (hfree : ∀ x, scope.names.lookup x = some .free → ∃ b, cl.lookup x = some b)
    (hlen : cvs.length = cn.length) (hcap : ∀ (i : Nat) (x : Str) (v : V), cn[i]? = some x → cvs[i]? = some v → ∃ b u, cl.lookup x = some b ∧ RelV v u ∧ base.IsCell b (some u))
    (e0 : Env0 P w K mg base A outer s H) (hd : A.handled = none) (r : RelV v u) (hns : g.Ns s.heap.objs.size fun y => ([(a, u)] : List (Str × Value)).reverse.lookup y) (kp : ∀ b o, s.heap.get? b = some o → g.get? b = some o) :
    Inv (cxL P w K mg base (a :: cn) (lamEv q scope s.heap.objs.size f c cl) A outer s H E) [] (some v :: cvs.map some) H { s with heap := g, toks := tk } := by
  have cell2 : ∀ b v, base.IsCell b v → g.IsCell b v := fun b v ⟨o, h1, h2⟩ => ⟨o, kp b o (e0.bs b o h1).1, h2⟩
  have none_ : ∀ b : Addr, b ∉ (cxL P w K mg base (a :: cn) (lamEv q scope s.heap.objs.size f c cl) A outer s H E).ex := fun b z => by cases (show b ∈ ([] : List Addr) from z)
  refine ⟨⟨e0.mod, Sc.kind, rfl, rfl, Nat.le_refl _, hinj, fun x hx => ?_, fun x b z => (nomatch (show false = true from z)), fun _ => hd, Around.frames_deeper e0.frames, .inr ⟨rfl, rfl⟩, fun b z => (none_ b z).elim, e0.bs, e0.bsz, fun b _ _ => none_ b,
      fun b z => (none_ b z).elim, e0.funs, e0.frf⟩, rfl, e0.bare, Un.kept kp, ⟨_, hns, fun i x w' e1 e2 e3 => ?_⟩, fun x b e => ?_, e0.hok.fresh (Nat.le_refl _), fun x b e => ?_, fun p z => (nomatch (show p ∈ ([] : List (Addr × Obj)) from z)), e0.hok.kept kp, ?_⟩
  · rcases (show scope.names.lookup x = some .cell ∨ scope.names.lookup x = some .free from hx) with z | z
    · exact (Sc.nocell _ (PySem.mem_of_lookup z) rfl).elim
    · exact hfree x z
  · cases i with
    | zero =>
      cases (show some a = some x from e1)
      cases (show some (some v) = some (some w') from e2)
      refine ⟨u, r, .inl ⟨Sc.par, ?_⟩⟩
      show ([(a, u)] : List (Str × Value)).lookup a = some u
      simp [List.lookup]
    | succ i =>
      have e1 : cn[i]? = some x := e1
      have e2 : (cvs.map some)[i]? = some (some w') := e2
      rw [List.getElem?_map, Option.map_eq_some_iff] at e2
      obtain ⟨w2, e2, e4⟩ := e2
      cases e4
      obtain ⟨b, u2, h1, h2, h3⟩ := hcap i x _ e1 e2
      exact ⟨u2, h2, .inr ⟨.inr (Sc.free x (List.mem_of_getElem? e1)), b, h1, cell2 _ _ h3⟩⟩
  · obtain ⟨v2, z⟩ := hcell x b e
    exact ⟨v2, cell2 b v2 z⟩
  · obtain ⟨v2, o, h1, _⟩ := hcell x b e
    exact (e0.bs b o h1).2
  · show (some v :: cvs.map some).length = (a :: cn).length
    simp [hlen]
/-- what is asked of a lambda's caller: its code object, its captured values, its argument -/
def spLam (K : PySem.W.Frag) (c : Addr) (q : Str) (cvs : List V) (caps : List D) (F : List D → M S) : Sp := fun vs H Q E => ∃ G xs s, (Ex G H ∧ TabOk K H G) ∧ G c = some (LamX.CodeO c q) ∧ RpL K G caps cvs ∧ RpL K G xs vs ∧ xs.length = 1 ∧ F xs = .ok s ∧
  (∀ v G' H', Ex G G' → Ex G' H' → Ex H H' → Nc K H G H' G' → SlotOk K H G' H' s (some v) → OtI K H G' H' v s → Q v H')
/-- what a base that holds a lambda is good for -/
structure HeldB (P : Program) (w : World) (K : PySem.W.Frag) (mg : Str → Option Value) (base : Heap) (k : Nat) (f : Addr) (sp : Sp) : Prop where
  ex : ∃ (fd : FuncData) (ps : List Str) (o : Obj), base.get? f = some o ∧ o.data = .func fd ∧ FnOk P w K mg base CX0 k f fd ps sp ∧ ∀ (s : Shared) (us : List Value), us.length = ps.length → BindsTo s fd ⟨us, []⟩ (ps.zip us)
theorem lam_held {Hy : PySem.W.Frag → Prop} (hy : Hy K) {q a : Str} {cn : List Str} {params : Arguments} {body : Expr} {scope : Scope} {f c : Addr} {cvs : List V} {caps : List D} {b : SE Hy} {W : WX} (B : LamB base q params body scope cn f c cvs) (Sc : LamS1 a cn scope)
    (hb : ∀ (cl : List (Str × Addr)) (pm cv ctv u : Value), bindArgs (PySem.W.kla_fn "<lambda>" q params body scope cl pm cv ctv) ⟨[u], []⟩ = pure [(a, u)])
    (hbody : ∀ (A : Around) (outer : List Env) (s : Shared) (H : Hp) (E : XK) (cl : List (Str × Addr)), Room k (A.deeper (lamEv q scope s.heap.objs.size f c cl)) → PE (cxL P w K mg base (a :: cn) (lamEv q scope s.heap.objs.size f c cl) A outer s H E) body (b.t K W)) :
    HeldB P w K mg base (k + 1) f (spLam K c q cvs caps fun xs => (b.fd (xs.map .d ++ caps.map .d)).bin fun y => .ok (.d y)) := by
  obtain ⟨cl, pm, ctv, ob, hcell, hinj, hfree, hlen, hcap⟩ := B.ex
  refine ⟨_, [a], _, ob, rfl, ⟨fun vs H Q E ⟨G, xs, s, _, _, _, rx, h1, _⟩ => by rw [← rx.length, h1]; rfl, fun A outer s H args us vs Q E room e0 bt rv ⟨G, xs, sl, ⟨gh, tb⟩, gc, rc, rx, h1, hF, q1⟩ => ?_⟩, fun s us hl => ?_⟩
  · obtain ⟨x, rfl⟩ : ∃ x, xs = [x] := List.length_eq_one_iff.mp h1
    obtain ⟨v, rfl⟩ : ∃ v, vs = [v] := List.length_eq_one_iff.mp rx.length.symm
    obtain ⟨u, rfl⟩ : ∃ u, us = [u] := List.length_eq_one_iff.mp rv.length.symm
    have ru : RelV v u := by cases rv with | cons r1 _ => exact r1
    have rx1 : Rp K G x v := by cases rx with | cons r1 _ => exact r1
    have ob2 := (e0.bs f _ ob).1
    obtain ⟨⟨oc, xs2, t, k1, k2, k3⟩, _⟩ := e0.hok c _ (gh c _ gc)
    have lim : s.heap.NoLimit := e0.mod.nolimit.keeps fun b o e => (e0.bs b o e).1
    refine PySem.W.kla_callFunE room.depth ob2 rfl Sc.co Sc.gen rfl ⟨c, oc, xs2, t, rfl, k1, k2, k3⟩ (bt _ _ _ _ ?_)
    refine wpAny_newFunctionEnv Sc.nocell (fun y hy => ?_) (fun g hns same => ?_) Sc.kind
    · have : y = (a, u) := by simpa using hy
      rw [this]; exact Sc.par
    · have kp : ∀ b o, s.heap.get? b = some o → g.get? b = some o := fun b o e => same.extBut b o (Nat.ne_of_lt (Heap.lt_size e)) (Heap.get?_push_of_some _ e)
      refine ⟨lim.fresh _ same, ?_⟩
      have J := lam_begin (P := P) (w := w) (K := K) (mg := mg) (q := q) (params := params) (body := body) (f := f) (c := c) (pm := pm) (ctv := ctv) (E := E) (tk := s.toks + ([(a, u)] : List (Str × Value)).length) Sc hcell hinj hfree hlen hcap e0 room.hd ru hns kp
      have rl : RpL K G (x :: caps) (v :: cvs) := .cons rx1 rc
      have okS : OK K H G H (some v :: cvs.map some) (.d x :: caps.map .d) := by
        have z := ok_start (K := K) (N := (a :: cn)) (xs := x :: caps) (vs := v :: cvs) ⟨gh, tb⟩ rl
        have e1 : L2.start (a :: cn) (v :: cvs) = some v :: cvs.map some := by
          unfold L2.start
          simp [hlen]
        have e2 : slots (a :: cn).length (x :: caps) = S.d x :: caps.map S.d := by
          unfold slots
          have : caps.length = cn.length := rc.length.trans hlen
          simp [this]
        rw [e1, e2] at z
        exact z
      obtain ⟨y, hf, rfl⟩ : ∃ y, b.fd (.d x :: caps.map .d) = .ok y ∧ sl = .d y := by
        have z : (b.fd (.d x :: caps.map .d)).bin (fun y => M.ok (S.d y)) = .ok sl := hF
        cases h : b.fd (.d x :: caps.map .d) with
        | ok y => rw [h] at z; cases z; exact ⟨y, rfl, rfl⟩
        | no => rw [h] at z; cases z
        | ex _ _ => rw [h] at z; cases z
      have ev := b.okD (W := W) hy hf
      have done := ev H G H [] [] _ rfl okS Q fun v2 H2 ⟨G2, ok2⟩ => q1 v2 G2 H2 ok2.ge ok2.gh ok2.he ok2.nc ok2.top trivial
      refine PySem.W.kla_codeExpr (wpAny_mono ((hbody A outer s H E cl (room.deeper _)).run [] _ _ H Q J done) (fun u2 s2 hq => ?_) fun e s2 hq => hq)
      obtain ⟨v2, H2, J2, r2, q2⟩ := hq
      exact ⟨v2, H2, J2.os, J2.bare, J2.base, J2.hok, r2, q2⟩
  · obtain ⟨u, rfl⟩ := List.length_eq_one_iff.mp hl
    exact .of_eq (hb _ _ _ _ _)
end
/-! ### the call -/
/-- the heap without what is tracked and without the frames -/
def hidF (h : Heap) (H : Hp) (fs : List Addr) : Heap := hidT h fun b => if b ∈ fs then some (.lst []) else H b
theorem hidF_get {h : Heap} {H : Hp} {fs : List Addr} {b : Addr} {o : Obj} (e : h.get? b = some o) (n : H b = none) (m : b ∉ fs) : (hidF h H fs).get? b = some o := hidT_get e (by rw [if_neg m]; exact n)
theorem of_hidF {h : Heap} {H : Hp} {fs : List Addr} {b : Addr} {o : Obj} (e : (hidF h H fs).get? b = some o) : h.get? b = some o ∧ H b = none ∧ b ∉ fs := by
  obtain ⟨e1, e2⟩ := of_hidT e
  by_cases m : b ∈ fs
  · rw [if_pos m] at e2; cases e2
  · rw [if_neg m] at e2; exact ⟨e1, e2, m⟩
theorem hidF_none {h : Heap} {H : Hp} {fs : List Addr} {b : Addr} (m : b ∈ fs) : (hidF h H fs).get? b = none := by
  cases q : (hidF h H fs).get? b with
  | none => rfl
  | some o => exact ((of_hidF q).2.2 m).elim
theorem frames_over {h base base2 : Heap} : ∀ {l : List Env}, h.FunFrames base l → (∀ b ∈ frs l, base2.get? b = none) → h.FunFrames base2 l
  | [], _, _ => trivial
  | ev :: r, hl, n => by
    obtain ⟨hk, ⟨L, o, hf, _, ho, hd⟩, hr⟩ := hl
    have mem : ∀ b, b ∈ frs r → b ∈ frs (ev :: r) := fun b hb => by
      unfold frs at hb ⊢
      rw [List.filterMap_cons, hf]; exact List.mem_cons_of_mem _ hb
    have mL : L ∈ frs (ev :: r) := by
      unfold frs
      rw [List.filterMap_cons, hf]; exact List.mem_cons_self
    exact ⟨hk, ⟨L, o, hf, n L mL, ho, hd⟩, frames_over hr fun b hb => n b (mem b hb)⟩
section
variable {X : Cx} {pins : List (Addr × Obj)} {σ : L2.St} {H : Hp} {s : Shared}
theorem base_over (I : Inv X pins σ H s) : ∀ b o, X.base.get? b = some o → (hidF s.heap H (frs X.stack)).get? b = some o := fun b o e => by
  refine hidF_get (I.bs b o e).1 (I.bs b o e).2 fun m => ?_
  have := (I.stack.mem m).1
  rw [e] at this; cases this
theorem env_over (I : Inv X pins σ H s) : Env0 X.prog X.w X.K X.mg (hidF s.heap H (frs X.stack)) X.A X.stack s H := by
  have up := base_over I
  obtain ⟨mb, n1, n2⟩ := I.mod.blt
  exact ⟨I.ok.frames, ⟨I.mod.kin.keeps up, I.mod.glob.keeps up, ⟨mb, n1.keeps up, n2⟩, I.mod.nolimit.keeps up⟩, fun b o e => ⟨(of_hidF e).1, (of_hidF e).2.1⟩, Nat.le_of_eq (hidT_size _ _),
    frames_over I.stack fun b hb => hidF_none hb, I.stkFree, I.hok, I.bare⟩
/-- the lambda just made lies in such a base -/
theorem lamB_of {q a : Str} {cn : List Str} {ci : List Nat} {params : Arguments} {body : Expr} {scope : Scope} {f c : Addr} {cvs : List V} {pm ctv : Value} (I : Inv X pins σ H s)
    (ob : s.heap.get? f = some (PySem.W.kla_obj "<lambda>" q params body scope (cloFrom X.env.cells scope.names []) pm c ctv)) (hf : H f = none) (hfr : f ∉ frs X.stack)
    (hfn : ∀ x, X.fn x = true) (free : ∀ y ∈ scope.names, y.2 = .free → X.env.scope.names.lookup y.1 = some .cell) (Sc : LamS1 a cn scope)
    (hci : ci.length = cn.length) (hN : ∀ (j i : Nat) (x : Str), ci[j]? = some i → cn[j]? = some x → X.N[i]? = some x) (hσ : cvs.length = cn.length ∧ ∀ (j i : Nat) (v : V), ci[j]? = some i → cvs[j]? = some v → σ[i]? = some (some v)) :
    LamB (hidF s.heap H (frs X.stack)) q params body scope cn f c cvs := by
  have has : ∀ y ∈ scope.names, y.2 = .free → ∃ b, X.env.cells.lookup y.1 = some b := fun y hy e => I.ok.has _ (.inl (free y hy e))
  have back : ∀ {y b}, (cloFrom X.env.cells scope.names []).lookup y = some b → X.env.cells.lookup y = some b := fun {y b} e => by
    rcases cloFrom_mem (PySem.mem_of_lookup e) with z | ⟨z1, z2⟩
    · cases z
    · obtain ⟨b2, hb⟩ := has _ z1 rfl
      have hb : X.env.cells.lookup y = some b2 := hb
      rw [hb] at z2
      rw [hb, show b = b2 from z2]
  have forth : ∀ {y}, scope.names.lookup y = some .free → ∃ b, (cloFrom X.env.cells scope.names []).lookup y = some b := fun {y} e => mem_lookup (cloFrom_has (cells := X.env.cells) (acc := []) (PySem.mem_of_lookup e))
  have cell : ∀ {y b v}, X.env.cells.lookup y = some b → s.heap.IsCell b v → (hidF s.heap H (frs X.stack)).IsCell b v := fun {y b v} e ⟨o, ho, hd⟩ => by
    refine ⟨o, hidF_get ho (I.freeC y b e) fun m => ?_, hd⟩
    rcases List.mem_cons.mp (I.stkSub b m) with z | z
    · exact I.cne y b e z
    · obtain ⟨_, o2, h1, _⟩ := I.ok.funs.mem z
      exact Nat.not_le_of_lt (Heap.lt_size h1) (I.ok.cab y b (hfn y) e)
  refine ⟨_, pm, ctv, hidF_get ob hf hfr, fun x b e => ?_, fun x y b e1 e2 => I.ok.inj x y b (back e1) (back e2), fun x e => forth e, hσ.1, fun j x v e1 e2 => ?_⟩
  · obtain ⟨v, z⟩ := I.cell x b (back e)
    exact ⟨v, cell (back e) z⟩
  · have hj : j < ci.length := by rw [hci]; exact (List.getElem?_eq_some_iff.mp e1).1
    obtain ⟨i, hi⟩ : ∃ i, ci[j]? = some i := ⟨_, List.getElem?_eq_getElem hj⟩
    have hx := hN j i x hi e1
    have hs := hσ.2 j i v hi e2
    have fr := Sc.free x (List.mem_of_getElem? e1)
    have vis := free _ (PySem.mem_of_lookup fr) rfl
    obtain ⟨m, _, hl⟩ := I.loc
    obtain ⟨u, r, z⟩ := hl i x v hx hs (.inr (.inl vis))
    obtain ⟨b, hb⟩ := forth fr
    rcases z with ⟨z, _⟩ | ⟨_, b2, z1, z2⟩
    · have z : X.env.scope.names.lookup x = some .local := z
      rw [show X.env.scope.names.lookup x = some .cell from vis] at z; cases z
    · have := back hb
      rw [this] at z1; cases z1
      exact ⟨b, u, hb, r, cell this z2⟩
end
/-- a def of the module called with two things and a lambda of one's own -/
def tCallLam (P : Addr) (q : Str) (ci : List Nat) (sp : Addr → Addr → List V → Sp) (Ex_ : L2.St → XK) (t1 t2 : TE) : TE := fun σ H Q => t1 σ H fun v1 H1 => t2 σ H1 fun v2 H2 =>
  ∃ (cvs : List V) (ps : Array Value), (cvs.length = ci.length ∧ ∀ (j i : Nat) (v : V), ci[j]? = some i → cvs[j]? = some v → σ[i]? = some (some v)) ∧ H2 P = some (.tbl ps) ∧ TriplesOk ps.toList ∧ (∀ at_ cv, codeAmong at_ ps.toList = some cv → ∃ b, cv = .ref b) ∧
    ∀ f c H3, Made P q ps H2 H3 c → H3 f = none → sp f c cvs [v1, v2, .ref f] H3 Q (Ex_ σ)
section
variable {X : Cx} {CX : CXT} {k : Nat} {g c P : Addr} {fdg : FuncData} {psg : List Str} {sp : Addr → Addr → List V → Sp} {Ec : L2.St → XK} {x a : Str} {cn : List Str} {ci : List Nat} {p lp pos : Pos} {e1 e2 : Expr} {t1 t2 : TE} {params : Arguments} {body : Expr} {scope : Scope}
theorem pe_callLam (F : ∀ (base2 : Heap) (f c1 : Addr) (cvs : List V), X.K.In base2 → base2.Ns mainGlobals X.mg → (∀ b o, X.base.get? b = some o → base2.get? b = some o) → LamB base2 (X.env.qual ++ "<lambda>") params body scope cn f c1 cvs → FnOk X.prog X.w X.K X.mg base2 CX k g fdg psg (sp f c1 cvs))
    (hr : Room k X.A) (hg : Gl X x) (hm : X.mg x = some (.ref g)) (hk : PySem.W.keepIn X.K (.ref g) = true) (hb : L2.Binds X.K fdg psg []) (hx : ∀ σ, PassesAt CX X σ (Ec σ)) (h1 : PE X e1 t1) (h2 : PE X e2 t2)
    (TB : LamX.TabB X.base X.mg c P) (hc : X.env.code = .ref c) (hd : defaultsOf params X.env = ([], [])) (Sc : LamS1 a cn scope) (hfn : ∀ x, X.fn x = true) (free : ∀ y ∈ scope.names, y.2 = .free → X.env.scope.names.lookup y.1 = some .cell)
    (hci : ci.length = cn.length) (hN : ∀ (j i : Nat) (x : Str), ci[j]? = some i → cn[j]? = some x → X.N[i]? = some x)
    (hdb : (x == ("__debug__" : Str)) = false := by decide) (he : starEach (e1 :: e2 :: [.Lambda params body scope lp]) X.env = (false, eval e1 X.env) :: starEach (e2 :: [.Lambda params body scope lp]) X.env := by rfl)
    (he2 : backTo pos (starEach (e1 :: e2 :: [.Lambda params body scope lp]) X.env) = (false, eval e1 X.env) :: (false, eval e2 X.env) :: (false, eval (.Lambda params body scope lp) X.env) :: backTo pos (starEach [] X.env) := by rfl)
    (hpl : (backTo pos (starEach (e2 :: [.Lambda params body scope lp]) X.env)).any (·.1) = false := by rfl) :
    PE X (.Call (.Name x p) (e1 :: e2 :: [.Lambda params body scope lp]) [] pos) (tCallLam P (X.env.qual ++ "<lambda>") ci sp Ec t1 t2) := by
  refine ⟨fun pins s σ H Q I h => ?_⟩
  refine wpAny_Call_Name_kw (ld_glob I hg hm ?_ hdb)
  refine PySem.W.callWith_K (h₀ := X.base) I.ok.mod.kin hk ?_ he hpl
  rw [he2]
  refine Calls.spliced_cons (thn (h1.run pins s σ H _ I h) fun u1 s1 ⟨v1, H1, I1, r1, q1⟩ => ?_)
  refine Calls.spliced_cons (thn (h2.run pins s1 σ H1 _ I1 q1) fun u2 s2 ⟨v2, H2, I2, r2, q2⟩ => ?_)
  obtain ⟨cvs, ps, hσ, hP, ht, hrf, hq⟩ := q2
  have has : ∀ y ∈ scope.names, y.2 = .free → ∃ b, X.env.cells.lookup y.1 = some b := fun y hy e => I.ok.has _ (.inl (free y hy e))
  refine Calls.spliced_cons (lam_laid I2 TB hc hP ht hrf hd has fun f c1 pm ctv H3 s3 I3 made ob hf hfr => ?_)
  refine Calls.spliced_nil ⟨I3.kIn, ?_⟩
  have B := lamB_of (q := X.env.qual ++ "<lambda>") (cn := cn) (ci := ci) I3 ob hf hfr hfn free Sc hci hN ⟨hσ.1.trans hci, hσ.2⟩
  have e0 := env_over I3
  have G := F _ f c1 cvs e0.mod.kin e0.mod.glob (base_over I3) B
  have asked := hq f c1 H3 made hf
  have rv : Vals [v1, v2, .ref f] [u1, u2, .ref f] := .cons r1 (.cons r2 (.cons rfl .nil))
  have hl : [u1, u2, Value.ref f].length = psg.length := by rw [← rv.length]; exact G.len _ _ _ _ asked
  have bt := hb s3 [u1, u2, .ref f] I3.kIn (by rw [List.append_nil]; exact hl)
  rw [List.append_nil] at bt
  refine wpAny_call (codeAny_mono (G.run X.A X.stack s3 H3 ⟨[u1, u2, .ref f], []⟩ [u1, u2, .ref f] _ Q (Ec σ) hr e0 bt rv asked) fun r s4 hq4 => ?_)
  cases r with
  | error e => exact hx σ pins H3 s3 e s4 I3 hq4
  | ok fl =>
    cases fl with
    | ret u => exact I3.after hq4
    | next => exact False.elim hq4
    | brk => exact False.elim hq4
    | cont => exact False.elim hq4
end
/-! ### the call of a lambda that one was handed -/
section
variable {X : Cx} {k i : Nat} {x : Str} {p pos : Pos} {e : Expr} {es : List Expr} {t : TA}
theorem pe_callLm {S : Addr → Option Sp} (A : ∀ f sp, S f = some sp → HeldB X.prog X.w X.K X.mg X.base k f sp) (hr : Room k X.A) (hN : X.N[i]? = some x) (hv : Vis X.env.scope x) (ha : PA X (e :: es) t)
    (hdb : (x == ("__debug__" : Str)) = false := by decide) (hcd : (x == ("__classdict__" : Str)) = false := by decide)
    (he : starEach (e :: es) X.env = (false, eval e X.env) :: starEach es X.env := by rfl) (hpl : (backTo pos (starEach es X.env)).any (·.1) = false := by rfl) : PE X (.Call (.Name x p) (e :: es) [] pos) (tCallA i S t) := by
  refine ⟨fun pins s σ H Q I h => ?_⟩
  obtain ⟨f, sp, hs, hS, ht⟩ := h
  obtain ⟨fd, ps, o, ho, hd, F, hb⟩ := (A f sp hS).ex
  have there : ∀ {σ2 H2 s2}, Inv X pins σ2 H2 s2 → PySem.W.FnAt f s2.heap := fun {σ2 H2 s2} J => by
    have z := J.bk f o ho
    obtain ⟨oc, od, dt, sl⟩ := o
    cases hd
    exact ⟨oc, od, fd, sl, z⟩
  refine wpAny_Call_Name_kw (thn ((pe_var (pos := p) hN hv hdb hcd).run pins s σ H (fun v H1 => v = .ref f ∧ H1 = H) I ⟨.ref f, hs, rfl, rfl⟩) fun u s1 ⟨v, H1, I1, r1, q1⟩ => ?_)
  obtain ⟨rfl, rfl⟩ := q1
  cases r1
  refine PySem.W.callWith_F (there I1) (thn (ha.run pos pins s1 σ _ _ I1 ht) fun us s2 ⟨vs, H2, I2, r, q⟩ => ⟨there I2, ?_⟩) he hpl
  have hl : us.length = ps.length := by rw [← r.length]; exact F.len _ _ _ _ q
  refine wpAny_call (codeAny_mono (F.run X.A X.stack s2 H2 ⟨us, []⟩ us vs Q (fun _ _ _ => False) hr I2.env0 (hb s2 us hl) r q) fun r s3 hq => ?_)
  cases r with
  | error e => exact (show False from hq).elim
  | ok fl =>
    cases fl with
    | ret u => exact I2.after hq
    | next => exact False.elim hq
    | brk => exact False.elim hq
    | cont => exact False.elim hq
end
end Far
/-! Lambdas handed to a def, over data; K with the tables marked. -/
namespace Far
open PySem L2
/-- a lambda that one was handed: where it lies, its code object, what it captured, what it tells -/
structure LamI where
  f : Addr
  c : Addr
  q : Str
  cvs : List V
  caps : List D
  F : List D → M S
abbrev LamI.d (L : LamI) : D := .lam L.f L.c L.q L.cvs L.caps
def tabL (K : PySem.W.Frag) (L : LamI) : Addr → Option Sp := fun f => if f = L.f then some (spLam K L.c L.q L.cvs L.caps L.F) else none
section
variable {K : PySem.W.Frag} {δ : List S}
theorem ev_callB {i : Nat} {L : LamI} {tr : TA} {x y : D} (hi : δ[i]? = some (.d L.d)) (h : EA K tr δ [x]) (hr : L.F [x] = .ok (.d y)) : EV K (tCallA i (tabL K L) tr) δ (.d y) := by
  intro He Ge H τo τs σ hl ok Q q0
  obtain ⟨G, okk⟩ := id ok
  obtain ⟨e1, e2⟩ := len_append (d := δ) (c := σ) hl i
  obtain ⟨o, eo, v, rfl, r⟩ := okk.sl (τs.length + i) _ (e1.trans hi)
  obtain ⟨ev, _, _⟩ : v = .ref L.f ∧ True ∧ True := by cases r; exact ⟨rfl, trivial, trivial⟩
  subst ev
  refine ⟨L.f, _, e2.symm.trans eo, if_pos rfl, ?_⟩
  refine h He Ge H τo τs σ hl ok _ fun vs H1 G1 ok1 r1 => ?_
  obtain ⟨o1, eo1, v1, ev1, r2⟩ := ok1.sl (τs.length + i) _ (e1.trans hi)
  rw [eo] at eo1
  cases eo1
  cases ev1
  cases r2 with
  | lam hc rc =>
    refine ⟨G1, [x], .d y, ⟨ok1.gh, ok1.nc.tb⟩, hc, rc, r1, rfl, hr, fun v G' H' g1 g2 g3 nc k ot => ?_⟩
    exact q0 v H' ⟨G', (ok1.grow g3 g1 g2 nc).push k fun z => nomatch z⟩
end
section
variable {Hy : PySem.W.Frag → Prop}
open Classical in
noncomputable def asLam (L : LamI) (s : S) : M Unit := if s = .d L.d then .ok () else .no
theorem asLam_d {L : LamI} : asLam L (.d L.d) = .ok () := by unfold asLam; rw [if_pos rfl]
theorem asLam_to {L : LamI} {s : S} {u : Unit} (h : asLam L s = .ok u) : s = .d L.d := by
  unfold asLam at h
  split at h
  · assumption
  · cases h
def dOnly : M S → M D
  | .ok (.d y) => .ok y
  | _ => .no
theorem dOnly_to {m : M S} {y : D} (h : dOnly m = .ok y) : m = .ok (.d y) := by
  unfold dOnly at h
  split at h
  · cases h; rfl
  · cases h
theorem dOnly_ex {m : M S} {c : Addr} {fs : List (Str × D)} : dOnly m ≠ .ex c fs := by
  unfold dOnly
  split <;> exact fun z => nomatch z
def one1 : List D → M D
  | [x] => .ok x
  | _ => .no
/-- a call of the lambda in slot i -/
noncomputable def SE.callB (i : Nat) (L : LamI) (a : SA Hy) : SE Hy where
  t K W := tCallA i (tabL K L) (a.t K W)
  f δ := (gt δ i).bin fun s => (asLam L s).bin fun _ => (a.f δ).bin fun xs => (one1 xs).bin fun x => (dOnly (L.F [x])).bin fun y => .ok (.d y)
  ok K hk W δ := by
    cases h1 : gt δ i with
    | ok s =>
      obtain ⟨x, rfl, hx⟩ := gt_ok h1
      cases h2 : asLam L (.d x) with
      | ok u =>
        have e := asLam_to h2
        cases e
        cases h4 : a.f δ with
        | ok xs =>
          cases h5 : one1 xs with
          | ok z =>
            have : xs = [z] := by
              unfold one1 at h5
              split at h5
              · cases h5; rfl
              · cases h5
            subst this
            cases h6 : dOnly (L.F [z]) with
            | ok y => simp only [M.ok_bin, h2, h4, h5, h6]; exact ev_callB hx (a.okA hk h4) (dOnly_to h6)
            | _ => simp only [M.ok_bin, h2, h4, h5, h6]; trivial
          | _ => simp only [M.ok_bin, h2, h4, h5]; trivial
        | _ => simp only [M.ok_bin, h2, h4]; trivial
      | _ => simp only [M.ok_bin, h2]; trivial
    | _ => trivial
@[simp] theorem SE.callB_f (i : Nat) (L : LamI) (a : SA Hy) (δ : List S) : (SE.callB i L a).f δ = (gt δ i).bin fun s => (asLam L s).bin fun _ => (a.f δ).bin fun xs => (one1 xs).bin fun x => (dOnly (L.F [x])).bin fun y => .ok (.d y) := (rfl)
@[simp] theorem asLam_s {L : LamI} : asLam L (.d (.lam L.f L.c L.q L.cvs L.caps)) = .ok () := asLam_d
@[simp] theorem one1_c {x : D} : one1 [x] = .ok x := (rfl)
@[simp] theorem dOnly_d {y : D} : dOnly (.ok (.d y)) = .ok y := (rfl)
end
/-! ### the making and handing on -/
theorem among_raw {at_ : Pos} {a b : Int} {c cv : Value} {l : List Value} (h : TriplesOk l) (e : codeAmong at_ (l ++ [rawInt a, rawInt b, c]) = some cv) : codeAmong at_ l = some cv ∨ cv = c := by
  fun_induction TriplesOk l with
  | case3 l n1 n2 => cases h
  | case1 =>
    right
    rw [List.nil_append] at e
    unfold rawInt codeAmong at e
    split at e
    · exact (Option.some.inj e).symm
    · unfold codeAmong at e; cases e
  | case2 i t j u x r ih =>
    rw [List.cons_append, List.cons_append, List.cons_append] at e
    unfold codeAmong at e ⊢
    split at e
    · rename_i z; rw [if_pos z]; exact .inl e
    · rename_i z; rw [if_neg z]; exact ih h e
section
variable {K : PySem.W.Frag} {He Ge H G : Hp} {σ : L2.St} {δ : List S}
theorem OKG.dropN {τo : L2.St} {τs : List S} (h : OKG K He Ge H G (τo ++ σ) (τs ++ δ)) (hl : τo.length = τs.length) : OKG K He Ge H G σ δ := by
  induction τo generalizing τs with
  | nil =>
    cases τs with
    | nil => exact h
    | cons _ _ => cases hl
  | cons o τo ih =>
    cases τs with
    | nil => cases hl
    | cons s τs => exact ih (OKG.pop (s := s) (o := o) h) (by simpa using hl)
theorem Ex.tabGrow {H : Hp} {P : Addr} {ps ps2 : Array Value} (h : H P = some (.tbl ps)) : Ex H (upd H P (.tbl ps2)) := ⟨fun a o e n => by
  rw [upd_ne (fun z => by rw [z, h] at e; cases e; cases n)]; exact e, fun a p e => by
  by_cases z : a = P
  · subst z; exact ⟨ps2, upd_same⟩
  · exact ⟨p, by rw [upd_ne z]; exact e⟩⟩
theorem OKG.made {P c : Addr} {q : Str} {ps : Array Value} {H3 : Hp} (ok : OKG K He Ge H G σ δ) (hm : (P, q) ∈ tabsK K) (hu : ∀ p ∈ tabsK K, p.1 = P → p.2 = q) (hP : H P = some (.tbl ps)) (m : Made P q ps H H3 c) :
    ∃ G3, OKG K He Ge H3 G3 σ δ ∧ Ex G G3 ∧ G3 c = some (LamX.CodeO c q) := by
  rcases m with ⟨rfl, at_, ha⟩ | ⟨l, k, hc, rfl⟩
  · obtain ⟨ps2, h1, _, h3⟩ := ok.nc.tb _ hm
    rw [show H3 (P, q).1 = H3 P from rfl, hP] at h1
    cases h1
    obtain ⟨b, e, g⟩ := h3 at_ _ ha
    cases e
    exact ⟨G, ok, .refl G, g⟩
  · have gc : G c = none := ok.gh.none hc
    have nP : P ≠ c := ne_of_none hP hc
    have n2 : upd H P (.tbl (ps ++ #[rawInt l, rawInt k, .ref c])) c = none := by rw [upd_ne (Ne.symm nP)]; exact hc
    have e1 := Ex.tabGrow (ps2 := ps ++ #[rawInt l, rawInt k, .ref c]) hP
    refine ⟨upd G c (LamX.CodeO c q), ok.grow (e1.trans (.new n2)) (.new gc) (ok.gh.trans e1).both ⟨fun b b1 b2 => ?_, ok.nc.tb, fun p hp => ?_⟩, .new gc, upd_same⟩
    · rw [upd_ne (fun z => b1 (by rw [z]; exact hc))]; exact b2
    · obtain ⟨ps2, h1, h2, h3⟩ := ok.nc.tb p hp
      have np : p.1 ≠ c := ne_of_none h1 hc
      by_cases z : p.1 = P
      · have eq := hu p hp z
        rw [z, hP] at h1
        cases h1
        refine ⟨ps ++ #[rawInt l, rawInt k, .ref c], by rw [upd_ne np, z, upd_same], ?_, fun at_ cv ha => ?_⟩
        · rw [show (ps ++ #[rawInt l, rawInt k, .ref c]).toList = ps.toList ++ [rawInt l, rawInt k, .ref c] by simp]
          exact PySem.TriplesOk_snoc _ _ _ _ h2
        · rw [show (ps ++ #[rawInt l, rawInt k, .ref c]).toList = ps.toList ++ [rawInt l, rawInt k, .ref c] by simp] at ha
          rcases among_raw h2 ha with w | w
          · obtain ⟨b, e3, g⟩ := h3 at_ cv w
            exact ⟨b, e3, by rw [upd_ne (ne_of_none g gc)]; exact g⟩
          · exact ⟨c, w, by rw [upd_same, eq]⟩
      · refine ⟨ps2, by rw [upd_ne np, upd_ne z]; exact h1, h2, fun at_ cv ha => ?_⟩
        obtain ⟨b, e3, g⟩ := h3 at_ cv ha
        exact ⟨b, e3, by rw [upd_ne (ne_of_none g gc)]; exact g⟩
end
section
variable {K : PySem.W.Frag} {δ : List S} {t1 t2 : TE} {x1 x2 : D} {s : S} {W : WX} {c : Addr} {cf : List (Str × D)}
/-- the values in the slots ci -/
def capsF (δ : List S) : List Nat → M (List D)
  | [] => .ok []
  | i :: r => (gt δ i).bin fun s => (dOnly (.ok s)).bin fun x => (capsF δ r).bin fun xs => .ok (x :: xs)
theorem caps_held {He Ge H G : Hp} {σ : L2.St} (ok : OKG K He Ge H G σ δ) : ∀ {ci : List Nat} {caps : List D}, capsF δ ci = .ok caps → ∃ cvs : List V, RpL K G caps cvs ∧ cvs.length = ci.length ∧ ∀ (j i : Nat) (v : V), ci[j]? = some i → cvs[j]? = some v → σ[i]? = some (some v)
  | [], caps, h => by
    cases h
    exact ⟨[], .nil, rfl, fun j i v h => by simp at h⟩
  | i :: r, caps, h => by
    unfold capsF at h
    cases h1 : gt δ i with
    | ok s =>
      obtain ⟨x, rfl, hx⟩ := gt_ok h1
      rw [h1, M.ok_bin, dOnly_d, M.ok_bin] at h
      cases h2 : capsF δ r with
      | ok xs =>
        rw [h2, M.ok_bin] at h
        cases h
        obtain ⟨cvs, r1, r2, r3⟩ := caps_held ok h2
        obtain ⟨o, eo, v, rfl, rx⟩ := ok.sl i _ hx
        refine ⟨v :: cvs, .cons rx r1, by simp [r2], fun j k w e1 e2 => ?_⟩
        cases j with
        | zero => simp at e1 e2; subst e1; subst e2; exact eo
        | succ j => exact r3 j k w (by simpa using e1) (by simpa using e2)
      | no => rw [h2] at h; cases h
      | ex _ _ => rw [h2] at h; cases h
    | no => rw [h1] at h; cases h
    | ex _ _ => rw [h1] at h; cases h
/-- what is asked of the def that is called, with a lambda of whatever was captured -/
def spAny (K : PySem.W.Frag) (q : Str) (FP : LamI → List D → M S) (LF : List D → List D → M S) : Addr → Addr → List V → Sp := fun f c cvs vs H Q E => ∃ caps : List D, spD K (RF (FP ⟨f, c, q, cvs, caps, LF caps⟩)) vs H Q E
theorem ev_callLam {P : Addr} {q : Str} {ci : List Nat} {FP : LamI → List D → M S} {LF : List D → List D → M S} {caps : List D} (hm : (P, q) ∈ tabsK K) (hu : ∀ p ∈ tabsK K, p.1 = P → p.2 = q) (h1 : EV K t1 δ (.d x1)) (h2 : EV K t2 δ (.d x2)) (hc : capsF δ ci = .ok caps)
    (hr : ∀ f c cvs, FP ⟨f, c, q, cvs, caps, LF caps⟩ [x1, x2, .lam f c q cvs caps] = .ok s) : EV K (tCallLam P q ci (spAny K q FP LF) (WE W) t1 t2) δ s := by
  intro He Ge H τo τs σ hl ok Q q0
  refine h1 He Ge H τo τs σ hl ok _ fun v1 H1 ok1 => ?_
  refine h2 He Ge H1 (some v1 :: τo) (.d x1 :: τs) σ (by simp [hl]) ok1 _ fun v2 H2 ⟨G2, ok2⟩ => ?_
  obtain ⟨_, e2, r2⟩ := ok2.top
  obtain ⟨_, e1, r1⟩ := ok2.pop.top
  cases e1; cases e2
  have ok3 := ok2.pop.pop
  have okd : OKG K He Ge H2 G2 σ δ := ok3.dropN hl
  obtain ⟨cvs, rc, l1, l2⟩ := caps_held okd hc
  obtain ⟨ps, hP, ht, hcd⟩ := ok3.nc.tb _ hm
  refine ⟨cvs, ps, ⟨l1, l2⟩, hP, ht, fun at_ cv e => ?_, fun f c H3 made hf => ?_⟩
  · obtain ⟨b, e3, _⟩ := hcd at_ cv e; exact ⟨b, e3⟩
  · obtain ⟨G3, ok4, g3, hco⟩ := ok3.made hm hu hP made
    refine ⟨caps, sp_ret ok4 (.cons (r1.mono g3) (.cons (r2.mono g3) (.cons (.lam hco (rc.mono g3)) .nil))) (.inl ⟨s, hr f c cvs, rfl⟩) q0⟩
theorem ex_callLam {P : Addr} {q : Str} {ci : List Nat} {FP : LamI → List D → M S} {LF : List D → List D → M S} {caps : List D} (hm : (P, q) ∈ tabsK K) (hu : ∀ p ∈ tabsK K, p.1 = P → p.2 = q) (h1 : EV K t1 δ (.d x1)) (h2 : EV K t2 δ (.d x2)) (hc : capsF δ ci = .ok caps)
    (hr : ∀ f c1 cvs, FP ⟨f, c1, q, cvs, caps, LF caps⟩ [x1, x2, .lam f c1 q cvs caps] = .ex c cf) : EX K (WE W) (tCallLam P q ci (spAny K q FP LF) (WE W) t1 t2) δ c cf := by
  intro He Ge H τo τs σ hl ok k Q
  refine h1 He Ge H τo τs σ hl ok _ fun v1 H1 ok1 => ?_
  refine h2 He Ge H1 (some v1 :: τo) (.d x1 :: τs) σ (by simp [hl]) ok1 _ fun v2 H2 ⟨G2, ok2⟩ => ?_
  obtain ⟨_, e2, r2⟩ := ok2.top
  obtain ⟨_, e1, r1⟩ := ok2.pop.top
  cases e1; cases e2
  have ok3 := ok2.pop.pop
  have okd : OKG K He Ge H2 G2 σ δ := ok3.dropN hl
  obtain ⟨cvs, rc, l1, l2⟩ := caps_held okd hc
  obtain ⟨ps, hP, ht, hcd⟩ := ok3.nc.tb _ hm
  refine ⟨cvs, ps, ⟨l1, l2⟩, hP, ht, fun at_ cv e => ?_, fun f c1 H3 made hf => ?_⟩
  · obtain ⟨b, e3, _⟩ := hcd at_ cv e; exact ⟨b, e3⟩
  · obtain ⟨G3, ok4, g3, hco⟩ := ok3.made hm hu hP made
    refine ⟨caps, G3, _, .exc c cf, ⟨ok4.gh, ok4.nc.tb⟩, .cons (r1.mono g3) (.cons (r2.mono g3) (.cons (.lam hco (rc.mono g3)) .nil)), .inr ⟨c, cf, hr f c1 cvs, rfl⟩, fun v s' G' H' e => (nomatch e), fun c' fs cls d G' H' e g1 g2 g4 nc k2 => ?_⟩
    cases e
    exact k cls d G' H' (ok4.grow g4 g1 g2 nc) k2
end
section
variable {Hy : PySem.W.Frag → Prop}
/-- what a lambda tells of its argument, by what it captured -/
def lamF (b : SE Hy) (caps xs : List D) : M S := (b.fd (xs.map .d ++ caps.map .d)).bin fun y => .ok (.d y)
open Classical in
/-- the same, wherever the lambda lies -/
noncomputable def lamAll (r : Addr → Addr → List V → M S) : M S := if ∀ f c cvs, r f c cvs = r 0 0 [] then r 0 0 [] else .no
theorem lamAll_eq {r : Addr → Addr → List V → M S} {z : M S} (h : ∀ f c cvs, r f c cvs = z) : lamAll r = z := by
  unfold lamAll; rw [if_pos (fun f c cvs => (h f c cvs).trans (h 0 0 []).symm)]; exact h 0 0 []
theorem lamAll_ok {r : Addr → Addr → List V → M S} {z : M S} (h : lamAll r = z) (n : z ≠ .no) : ∀ f c cvs, r f c cvs = z := by
  unfold lamAll at h
  split at h
  · rename_i q; intro f c cvs; rw [q f c cvs]; exact h
  · exact (n h.symm).elim
/-- a def called with two things and a lambda -/
noncomputable def SE.callLam (P : Addr) (q : Str) (ci : List Nat) (FP : LamI → List D → M S) (b : SE Hy) (hm : ∀ K, Hy K → (P, q) ∈ tabsK K ∧ ∀ p ∈ tabsK K, p.1 = P → p.2 = q) (e1 e2 : SE Hy) : SE Hy where
  t K W := tCallLam P q ci (spAny K q FP (lamF b)) (WE W) (e1.t K W) (e2.t K W)
  f δ := (e1.fd δ).bind fun x1 => (e2.fd δ).bind fun x2 => (capsF δ ci).bin fun caps => lamAll fun f c cvs => FP ⟨f, c, q, cvs, caps, lamF b caps⟩ [x1, x2, .lam f c q cvs caps]
  ok K hk W δ := by
    cases h1 : e1.fd δ with
    | no => trivial
    | ex c fs => exact fun He Ge H τo τs σ hl ok k Q => (e1.exD hk h1) He Ge H τo τs σ hl ok k _
    | ok x1 =>
      rw [M.ok_bind]
      cases h2 : e2.fd δ with
      | no => trivial
      | ex c fs => exact fun He Ge H τo τs σ hl ok k Q => (e1.okD hk h1) He Ge H τo τs σ hl ok _ fun v1 H1 ok1 => (e2.exD hk h2) He Ge H1 (some v1 :: τo) (.d x1 :: τs) σ (by simp [hl]) ok1 (fun cls d G' H' ok' x => k cls d G' H' ok'.pop x) _
      | ok x2 =>
        rw [M.ok_bind]
        cases h3 : capsF δ ci with
        | ok caps =>
          rw [M.ok_bin]
          cases h4 : lamAll fun f c cvs => FP ⟨f, c, q, cvs, caps, lamF b caps⟩ [x1, x2, .lam f c q cvs caps] with
          | no => trivial
          | ok s => exact ev_callLam (hm K hk).1 (hm K hk).2 (e1.okD hk h1) (e2.okD hk h2) h3 (lamAll_ok h4 fun z => nomatch z)
          | ex c fs => exact ex_callLam (hm K hk).1 (hm K hk).2 (e1.okD hk h1) (e2.okD hk h2) h3 (lamAll_ok h4 fun z => nomatch z)
        | _ => trivial
@[simp] theorem SE.callLam_f (P : Addr) (q : Str) (ci : List Nat) (FP : LamI → List D → M S) (b : SE Hy) (hm) (e1 e2 : SE Hy) (δ : List S) : (SE.callLam P q ci FP b hm e1 e2).f δ = (e1.fd δ).bind fun x1 => (e2.fd δ).bind fun x2 => (capsF δ ci).bin fun caps => lamAll fun f c cvs => FP ⟨f, c, q, cvs, caps, lamF b caps⟩ [x1, x2, .lam f c q cvs caps] := (rfl)
@[simp] theorem capsF_nil {δ : List S} : capsF δ [] = .ok [] := (rfl)
@[simp] theorem capsF_cons {δ : List S} {i : Nat} {r : List Nat} : capsF δ (i :: r) = (gt δ i).bin fun s => (dOnly (.ok s)).bin fun x => (capsF δ r).bin fun xs => .ok (x :: xs) := (rfl)
end
end Far
/-! The row's end with tables of code objects. -/
namespace Far
open PySem PySem.Spec PyProof.Rows L2
section
variable {P : Program} {w : World} {K : PySem.W.Frag} {mg : Str → Option Value} {base : Heap}
/-- a def that makes lambdas: its code object is known -/
theorem ok_defXC {x qual : Str} {st : Stmt} {f c : Addr} {fd : FuncData} {N ps : List Str} {k : Nat} {R : List D → Out → Prop} {t : WX → TS} (F : Fun K x qual st f fd) (hc : fd.code = .ref c) (Sc : FnScope N ps (defScope st)) (hl : ∀ xs out, R xs out → xs.length = ps.length)
    (hd : ∀ (A : Around) (outer : List Env) (s : Shared) (H : Hp) (E : XK), Room k (A.deeper (envOfC qual (defScope st) s.heap.objs.size f (.ref c))) → PSs (cxOf (L2.CX P w) P w K mg base N qual (defScope st) f (.ref c) A outer s H E) (defBody st) (t fun cls d _ H => E cls d H))
    (hs : ∀ (E : WX) xs out, R xs out → SDef K E (t E) (slots N.length xs) out) : FnOk P w K mg base (L2.CX P w) (k + 1) f fd ps (spD K R) := by
  obtain ⟨oc, od, kV, doc, pm, an, cdv, ct, osl, rfl, lk, hcd⟩ := F.ex
  have hc2 : cdv = .ref c := hc
  subst hc2
  exact fn_of lk hcd Sc (spD_len hl) fun A outer s H vs Q E room asked => ⟨_, hd A outer s H E room, body_run asked (hs _)⟩
/-- .. of any lambda that is captured -/
theorem fn_any {CX : CXT} {k : Nat} {f c1 g : Addr} {fd : FuncData} {ps : List Str} {q : Str} {cvs : List V} {FP : LamI → List D → M S} {LF : List D → List D → M S}
    (h : ∀ caps : List D, FnOk P w K mg base CX k g fd ps (spD K (RF (FP ⟨f, c1, q, cvs, caps, LF caps⟩)))) : FnOk P w K mg base CX k g fd ps (spAny K q FP LF f c1 cvs) :=
  ⟨fun vs H Q E ⟨caps, asked⟩ => (h caps).len vs H Q E asked, fun A outer s H args us vs Q E room e0 bt rv ⟨caps, asked⟩ => (h caps).run A outer s H args us vs Q E room e0 bt rv asked⟩
theorem held_lam {Hy : PySem.W.Frag → Prop} (hy : Hy K) {k : Nat} {q a : Str} {cn : List Str} {params : Arguments} {body : Expr} {scope : Scope} {f c : Addr} {cvs : List V} {caps : List D} {b : SE Hy} {W : WX} (B : LamB base q params body scope cn f c cvs) (Sc : LamS1 a cn scope)
    (hb : ∀ (cl : List (Str × Addr)) (pm cv ctv u : Value), bindArgs (PySem.W.kla_fn "<lambda>" q params body scope cl pm cv ctv) ⟨[u], []⟩ = pure [(a, u)])
    (hbody : ∀ (A : Around) (outer : List Env) (s : Shared) (H : Hp) (E : XK) (cl : List (Str × Addr)), Room k (A.deeper (lamEv q scope s.heap.objs.size f c cl)) → PE (cxL P w K mg base (a :: cn) (lamEv q scope s.heap.objs.size f c cl) A outer s H E) body (b.t K W)) :
    ∀ f2 sp, tabL K ⟨f, c, q, cvs, caps, lamF b caps⟩ f2 = some sp → HeldB P w K mg base (k + 1) f2 sp := fun f2 sp h => by
  unfold tabL at h
  split at h
  · rename_i e
    subst e
    cases h
    exact lam_held hy B Sc hb hbody
  · cases h
theorem HeldB.mono {j k : Nat} {f : Addr} {sp : Sp} (h : HeldB P w K mg base j f sp) (l : j ≤ k) : HeldB P w K mg base k f sp :=
  ⟨let ⟨fd, ps, o, h1, h2, h3, h4⟩ := h.ex; ⟨fd, ps, o, h1, h2, h3.mono l, h4⟩⟩
end
/-! ### the known part of the heap, without the tables, which are marked -/
def noTab (ts : List Addr) (K : PySem.W.Frag) : PySem.W.Frag := K.filter fun q => !ts.contains q.1
def markK (ts : List (Addr × Str)) : PySem.W.Frag → PySem.W.Frag
  | (a, o) :: r => (a, o) :: (ts.map (fun p => (a, mkTab p.1 p.2)) ++ noTab (ts.map (·.1)) r)
  | [] => []
theorem noTab_look {ts : List Addr} {b : Addr} : ∀ {K : PySem.W.Frag}, (noTab ts K).lookup b = if b ∈ ts then none else K.lookup b
  | [] => by unfold noTab; simp
  | (a, o) :: r => by
    have ih := noTab_look (ts := ts) (b := b) (K := r)
    unfold noTab at ih ⊢
    rw [List.filter_cons]
    by_cases m : a ∈ ts
    · rw [if_neg (by simp [m]), ih]
      by_cases z : b = a
      · subst z; rw [if_pos m, if_pos m]
      · by_cases m2 : b ∈ ts
        · rw [if_pos m2, if_pos m2]
        · rw [if_neg m2, if_neg m2, List.lookup_cons]
          have : (b == a) = false := by simpa using z
          rw [this]
    · rw [if_pos (by simp [m]), List.lookup_cons, List.lookup_cons, ih]
      by_cases z : b = a
      · subst z; rw [if_neg m, if_neg m]
      · have : (b == a) = false := by simpa using z
        rw [this]
theorem marks_look {a b : Addr} {r : PySem.W.Frag} (n : b ≠ a) : ∀ {ts : List (Addr × Str)}, (ts.map (fun p => (a, mkTab p.1 p.2)) ++ r).lookup b = r.lookup b
  | [] => rfl
  | p :: ts => by
    have : (b == a) = false := by simpa using n
    rw [List.map_cons, List.cons_append, List.lookup_cons, this]
    exact marks_look n
theorem markK_look {ts : List (Addr × Str)} {b : Addr} : ∀ {K : PySem.W.Frag}, (∀ a o r, K = (a, o) :: r → a ∉ ts.map (·.1)) → (markK ts K).lookup b = if b ∈ ts.map (·.1) then none else K.lookup b
  | [], _ => by unfold markK; simp
  | (a, o) :: r, h => by
    have ha := h a o r rfl
    unfold markK
    rw [List.lookup_cons, List.lookup_cons]
    by_cases z : b = a
    · subst z; rw [beq_self_eq_true, if_neg ha]
    · have e : (b == a) = false := by simpa using z
      rw [e]
      show (ts.map (fun p => (a, mkTab p.1 p.2)) ++ noTab (ts.map (·.1)) r).lookup b = _
      rw [marks_look z, noTab_look]
/-- the first entry is no table -/
def headB (ts : List (Addr × Str)) : PySem.W.Frag → Bool
  | (a, _) :: _ => !(ts.map (·.1)).contains a
  | [] => true
theorem head_of {ts : List (Addr × Str)} {K : PySem.W.Frag} (h : headB ts K = true) : ∀ a o r, K = (a, o) :: r → a ∉ ts.map (·.1) := by
  rintro a o r rfl
  unfold headB at h
  simpa using h
theorem markK_in {ts : List (Addr × Str)} {K : PySem.W.Frag} {h : Heap} (hh : headB ts K = true) (X : K.In h) : (markK ts K).In h := fun b o e => by
  rw [markK_look (head_of hh)] at e
  split at e
  · cases e
  · exact X b o e
theorem markK_none {ts : List (Addr × Str)} {K : PySem.W.Frag} (hh : headB ts K = true) {p : Addr × Str} (m : p ∈ ts) : (markK ts K).lookup p.1 = none := by
  rw [markK_look (head_of hh), if_pos (List.mem_map.mpr ⟨p, m, rfl⟩)]
/-- a code object by what K tells of it -/
def HdOk (o : Obj) (c P : Addr) : Prop := ∃ vs file tf flags tg inF text tt, o.cls = .type "code" ∧ o.data = .fields vs ∧ vs[11]? = some (.ref P) ∧ vs.getD 11 .none = .ref P ∧ vs.getD 18 .none = .str file tf ∧
  vs.getD 7 .none = .int flags tg ∧ vs.getD 9 .none = .bool inF ∧ vs.getD 10 .none = .int text tt ∧ c ≠ P
theorem hd_of {K : PySem.W.Frag} {h : Heap} {c P : Addr} {o : Obj} (X : K.In h) (l : K.lookup c = some o) (k : HdOk o c P) : PySem.W.CodeHd h c P := by
  obtain ⟨vs, file, tf, flags, tg, inF, text, tt, r⟩ := k
  exact ⟨o, vs, file, tf, flags, tg, inF, text, tt, X c o l, r⟩
theorem tab_start {K : PySem.W.Frag} {H : Hp} {ts : List (Addr × Str)} (e : tabsK K = ts) (h : ∀ p ∈ ts, H p.1 = some (.tbl #[])) : TabOk K H H := fun p hp => by
  rw [e] at hp
  exact ⟨#[], h p hp, trivial, fun at_ cv z => by
    have z : codeAmong at_ [] = some cv := z
    unfold codeAmong at z; cases z⟩
theorem tab_mem {K : PySem.W.Frag} {ts : List (Addr × Str)} {p : Addr × Str} (nd : (ts.map (·.1)).Nodup) (h : tabsK K = ts) (m : p ∈ ts) : p ∈ tabsK K ∧ ∀ r ∈ tabsK K, r.1 = p.1 → r.2 = p.2 := by
  rw [h]
  refine ⟨m, fun r hr e => ?_⟩
  have : r = p := by
    clear h
    induction ts with
    | nil => cases m
    | cons t ts ih =>
      rw [List.map_cons, List.nodup_cons] at nd
      rcases List.mem_cons.mp m with rfl | m2
      · rcases List.mem_cons.mp hr with rfl | hr
        · rfl
        · exact (nd.1 (List.mem_map.mpr ⟨r, hr, e⟩)).elim
      · rcases List.mem_cons.mp hr with rfl | hr2
        · exact (nd.1 (List.mem_map.mpr ⟨p, m2, e.symm⟩)).elim
        · exact ih nd.2 m2 hr2
  rw [this]
theorem tab_up {base base2 : Heap} {mg : Str → Option Value} {c P : Addr} (h : LamX.TabB base mg c P) (k : ∀ b o, base.get? b = some o → base2.get? b = some o) : LamX.TabB base2 mg c P := ⟨h.code.keeps k, h.bm.keeps k, h.gP⟩
theorem ix_one {N : List Str} {i : Nat} {x : Str} (h : N[i]? = some x) : ∀ (j k : Nat) (y : Str), [i][j]? = some k → [x][j]? = some y → N[k]? = some y := fun j k y e1 e2 => by
  cases j with
  | zero => simp at e1 e2; subst e1; subst e2; exact h
  | succ j => simp at e1
end Far
/-! Dicts from numbers and None to such, in the layer. -/
namespace Far
open PySem L2
def keyO : D → Option KO
  | .non => some none | .int i => some (some i) | _ => none
def dKO (o : KO) : D := match o with | none => .non | some i => .int i
section
variable {K : PySem.W.Frag} {H G : Hp} {δ : List S}
theorem keyO_rp {x : D} {v : V} {k : KO} (h : keyO x = some k) (r : Rp K G x v) : v = vO k := by
  cases r <;> simp only [keyO] at h <;> (first | (cases h; rfl) | (cases h; done))
theorem rp_vO (k : KO) : Rp K G (dKO k) (vO k) := by
  cases k with
  | none => exact .non
  | some i => exact .int
theorem rp_getO {kvs : List (KO × KO)} {k : KO} {z : D} {w : V} (r : Rp K G z w) : Rp K G (((valO kvs k).map dKO).getD z) (((valO kvs k).map vO).getD w) := by
  cases valO kvs k with
  | none => exact r
  | some v => exact rp_vO v
variable {te tk tv td : TE} {x y : D} {k : KO} {kvs : List (KO × KO)}
theorem ev_oget2 {z : D} (h1 : EV K td δ (.d (.dO kvs))) (h2 : EV K tk δ (.d x)) (h3 : EV K tv δ (.d z)) (hk : keyO x = some k) : EV K (tOGet2 td tk tv) δ (.d (((valO kvs k).map dKO).getD z)) := by
  intro He Ge H τo τs σ hl ok Q q
  refine h1 He Ge H τo τs σ hl ok _ fun v H1 ok1 => ?_
  obtain ⟨G1, okk⟩ := id ok1
  obtain ⟨_, e0, r0⟩ := okk.top
  cases e0
  cases r0 with
  | @dO a ob _ hp0 =>
    refine ⟨a, ob, kvs, rfl, okk.gh.nt _ _ hp0 rfl, ?_⟩
    refine h2 He Ge H1 (some (.ref a) :: τo) (.d (.dO kvs) :: τs) σ (by simp [hl]) ok1 _ fun u H2 ok2 => ?_
    refine h3 He Ge H2 (some u :: some (.ref a) :: τo) (.d x :: .d (.dO kvs) :: τs) σ (by simp [hl]) ok2 _ fun w H3 ⟨G, ok3⟩ => ?_
    obtain ⟨_, e1, r1⟩ := ok3.top
    obtain ⟨_, e2, r2⟩ := ok3.pop.top
    obtain ⟨_, e3, r3⟩ := ok3.pop.pop.top
    cases e1; cases e2; cases e3
    cases r3 with
    | @dO _ ob2 _ hp =>
      exact ⟨ob2, kvs, k, ok3.gh.nt _ _ hp rfl, keyO_rp hk r2, q _ _ ⟨G, ok3.pop.pop.pop.pushD (rp_getO r1)⟩⟩
/-- the pairs of a dict written out -/
def EPO (K : PySem.W.Frag) (trs : List (TE × TE)) (δ : List S) (kvs : List (KO × KO)) : Prop := ∀ (He Ge H : Hp) (τo : St) (τs : List S) (σ : St), τo.length = τs.length → OK K He Ge H (τo ++ σ) (τs ++ δ) →
  ∀ Q : List (V × V) → Hp → Prop, (∀ H' G', OKG K He Ge H' G' (τo ++ σ) (τs ++ δ) → Q (kvs.map fun kv => (vO kv.1, vO kv.2)) H') → tPairs trs σ H Q
theorem epo_nil : EPO K [] δ [] := fun He Ge H τo τs σ hl ⟨G, ok⟩ Q q => q H G ok
theorem epo_cons {trs : List (TE × TE)} {u : KO} (h1 : EV K tk δ (.d x)) (hk : keyO x = some k) (h2 : EV K tv δ (.d y)) (hu : keyO y = some u) (h3 : EPO K trs δ kvs) : EPO K ((tk, tv) :: trs) δ ((k, u) :: kvs) := by
  intro He Ge H τo τs σ hl ok Q q
  show tk σ H fun x4 H1 => tv σ H1 fun y4 H2 => tPairs trs σ H2 fun ps H3 => Q ((x4, y4) :: ps) H3
  refine h1 He Ge H τo τs σ hl ok _ fun v H1 ok1 => ?_
  refine h2 He Ge H1 (some v :: τo) (.d x :: τs) σ (by simp [hl]) ok1 _ fun w H2 ok2 => ?_
  refine h3 He Ge H2 (some w :: some v :: τo) (.d y :: .d x :: τs) σ (by simp [hl]) ok2 _ fun H3 G ok3 => ?_
  obtain ⟨_, e1, r1⟩ := ok3.top
  obtain ⟨_, e2, r2⟩ := ok3.pop.top
  cases e1; cases e2
  rw [keyO_rp hu r1, keyO_rp hk r2]
  exact q H3 G ok3.pop.pop
theorem OKG.newO {He Ge H G : Hp} {σ : St} {δ : List S} {p : Addr} {ob : Obj} {xs : List (KO × KO)} (ok : OKG K He Ge H G σ δ) (hp : H p = none) : OKG K He Ge (upd H p (DO p ob xs)) G (some (.ref p) :: σ) (.oko xs :: δ) := by
  refine (ok.newH hp).push ⟨p, ob, rfl, ok.he.none hp, ok.gh.none hp, upd_same⟩ fun _ j t p' e hj ho eσ => ?_
  cases e
  obtain ⟨o, eo, k⟩ := ok.sl j t hj
  rw [eo] at eσ
  cases eσ
  cases t with
  | un => cases ho
  | ot _ _ _ => cases ho
  | d x => cases ho
  | own ys => obtain ⟨p', vs', e, _, _, h3, _⟩ := k; cases e; rw [hp] at h3; cases h3
  | okd ys => obtain ⟨p', vs', e, _, _, h3, _⟩ := k; cases e; rw [hp] at h3; cases h3
  | oko ys => obtain ⟨p', vs', e, _, _, h3⟩ := k; cases e; rw [hp] at h3; cases h3
  | ob q C fs => obtain ⟨a, dx, gs, e, _, _, _, _, _, h5, _⟩ := k; cases e; rw [hp] at h5; cases h5
theorem ev_onew : EV K tONew δ (.oko []) := by
  intro He Ge H τo τs σ hl ⟨G, ok⟩ Q q
  exact fun p ob hp => q _ _ ⟨G, ok.newO hp⟩
theorem ev_odisp {trs : List (TE × TE)} (h : EPO K trs δ kvs) (hz : kvs.length ≤ 15) : EV K (tODisp trs) δ (.oko (mergeO [] kvs)) := by
  intro He Ge H τo τs σ hl ⟨G, ok⟩ Q q p ob hp
  have ok1 := ok.newO (ob := ob) (xs := []) hp
  refine h He Ge _ (some (.ref p) :: τo) (.oko [] :: τs) σ (by simp [hl]) ⟨G, ok1⟩ _ fun H2 G2 ok2 => ?_
  obtain ⟨_, e0, p0, us, e1, k1, k2, k3⟩ := ok2.sl 0 (.oko []) rfl
  cases e0; cases e1
  refine ⟨⟨us, k3⟩, kvs, rfl, hz, fun ob' => q _ _ ⟨G2, ?_⟩⟩
  exact OKG.changeO (i := 0) ok2 rfl rfl k3
variable {W : WX} {N B Ct : List S → Prop} {Rt : S → List S → Prop} {Xc : List S → Addr → List (Str × D) → Prop}
theorem sd_oput {i : Nat} {u : KO} (hi : δ[i]? = some (.oko kvs)) (h1 : EV K tv δ (.d y)) (hu : keyO y = some u) (h2 : EV K tk δ (.d x)) (hk : keyO x = some k) (hz : kvs.length < sizeLine) (n : N (δ.set i (.oko (putO kvs k u)))) : SD K W (sOPut (tVar i) tk tv) δ N Rt B Ct Xc := by
  intro He Ge H σ Dn ok nx r bk ct xx
  refine ev0 h1 ok fun v H1 ok1 => ?_
  obtain ⟨G1, okk⟩ := id ok1
  obtain ⟨o, eo, p, ob, rfl, k1, k2, k3⟩ := okk.pop.sl i _ hi
  refine ⟨_, eo, ?_⟩
  refine h2 He Ge H1 [some v] [.d y] σ rfl ok1 _ fun w H2 ⟨G, ok2⟩ => ?_
  obtain ⟨_, e1, r1⟩ := ok2.top
  obtain ⟨_, e2, r2⟩ := ok2.pop.top
  cases e1; cases e2
  obtain ⟨o2, eo2, p2, ob2, e3, j1, j2, j3⟩ := ok2.pop.pop.sl i _ hi
  have eo2 : σ[i]? = some o2 := eo2
  rw [eo] at eo2
  cases eo2; cases e3
  exact ⟨p, ob2, kvs, k, u, rfl, j3, keyO_rp hk r1, keyO_rp hu r2, hz, fun ob' => nx _ _ _ ⟨G, OKG.changeO ok2.pop.pop hi eo j3⟩ n⟩
/-- from here on the dict in slot i is data -/
theorem OKG.freezeAtO {K : PySem.W.Frag} {He Ge H G : Hp} {σ : St} {δ : List S} {kvs : List (KO × KO)} {i : Nat} (ok : OKG K He Ge H G σ δ) (hi : δ[i]? = some (.oko kvs)) : ∃ G', OKG K He Ge H G' σ (δ.set i (.d (.dO kvs))) := by
  obtain ⟨o, eo, p, vs, rfl, h1, h2, h3⟩ := ok.sl i _ hi
  have hlt : i < δ.length := (List.getElem?_eq_some_iff.mp hi).1
  have g1 : Ex G (upd G p (DO p vs kvs)) := .new h2
  refine ⟨upd G p (DO p vs kvs), ok.ge.trans g1, ok.gh.lay h3, ok.he, ⟨fun b b1 b2 => ?_, ok.nc.t0, ok.nc.tb.mono (fun _ _ e => e) g1⟩, fun j s hj => ?_, fun j k s t p' hjk hj hk o1 o2 e1 e2 => ?_⟩
  · rw [upd_ne (fun z => b1 (by rw [z]; exact h1))]; exact ok.nc b b1 b2
  · by_cases z : i = j
    · subst z
      rw [List.getElem?_set_self hlt] at hj; cases hj
      exact ⟨_, eo, _, rfl, .dO upd_same⟩
    · rw [List.getElem?_set_ne z] at hj
      obtain ⟨o, e, k⟩ := ok.sl j s hj
      refine ⟨o, e, ?_⟩
      cases s with
      | un => trivial
      | ot _ _ _ => trivial
      | d x => obtain ⟨v, e1, r'⟩ := k; exact ⟨v, e1, r'.mono g1⟩
      | own ys =>
        obtain ⟨p2, vs2, rfl, k1, k2, k3, r2⟩ := k
        have ne : p2 ≠ p := fun y => ok.ne i j _ _ p z hi hj rfl rfl eo (by rw [← y]; exact e)
        exact ⟨p2, vs2, rfl, k1, by rw [upd_ne ne]; exact k2, k3, r2.mono g1⟩
      | okd ys =>
        obtain ⟨p2, vs2, rfl, k1, k2, k3, r2⟩ := k
        have ne : p2 ≠ p := fun y => ok.ne i j _ _ p z hi hj rfl rfl eo (by rw [← y]; exact e)
        exact ⟨p2, vs2, rfl, k1, by rw [upd_ne ne]; exact k2, k3, r2.mono g1⟩
      | oko ys =>
        obtain ⟨p2, vs2, rfl, k1, k2, k3⟩ := k
        have ne : p2 ≠ p := fun y => ok.ne i j _ _ p z hi hj rfl rfl eo (by rw [← y]; exact e)
        exact ⟨p2, vs2, rfl, k1, by rw [upd_ne ne]; exact k2, k3⟩
      | ob q C fs =>
        obtain ⟨a, dx, gs, rfl, kq, k1, k2, k3, k4, k5, k6, r'⟩ := k
        have n1 : a ≠ p := fun y => by rw [y, h3] at k5; cases k5
        have n2 : dx ≠ p := fun y => by rw [y, h3] at k6; cases k6
        exact ⟨a, dx, gs, rfl, kq, k1, by rw [upd_ne n1]; exact k2, k3, by rw [upd_ne n2]; exact k4, k5, k6, r'.mono g1⟩
  · have un : ∀ (m : Nat) (s : S), (δ.set i (.d (.dO kvs)))[m]? = some s → owned s = true → δ[m]? = some s := fun m s q1 q2 => by
      by_cases z : i = m
      · subst z; rw [List.getElem?_set_self hlt] at q1; cases q1; cases q2
      · rw [List.getElem?_set_ne z] at q1; exact q1
    exact ok.ne j k s t p' hjk (un j s hj o1) (un k t hk o2) o1 o2 e1 e2
/-- the pairs of such a dict -/
def itemsO (kvs : List (KO × KO)) : List D := kvs.map fun p => .utp [dKO p.1, dKO p.2]
theorem jig_oitems {G : Hp} {a : Addr} {ob : Obj} (hp : G a = some (DO a ob kvs)) : JIg K G (ItO a ob kvs) (itemsO kvs) := fun H G1 e1 e2 => by
  have h : H a = some (DO a ob kvs) := (e1.trans e2).nt _ _ hp rfl
  have hl : (itemsO kvs).length = kvs.length := by unfold itemsO; rw [List.length_map]
  rw [hl]
  refine ⟨fun i hi => ⟨h, hi⟩, fun i v H' hy hi => ?_, fun i hi => ⟨h, hi⟩⟩
  obtain ⟨T, k, w, hx, rfl, hT, rfl⟩ := hy
  obtain ⟨G2, g1, g2, g3, g4, rp⟩ := grow_tup (K := K) (xs := [dKO k, dKO w]) (vs := [vO k, vO w]) e2 hT (.cons (rp_vO k) (.cons (rp_vO w) .nil))
  exact ⟨G2, _, g1, g2, g3, g4, by unfold itemsO; rw [List.getElem?_map, hx]; rfl, rp⟩
theorem ei_oitems (h : EV K td δ (.d (.dO kvs))) : EI K (iOItems td) δ (itemsO kvs) := by
  intro He Ge H τo τs σ hl ok R q
  refine h He Ge H τo τs σ hl ok _ fun v H1 ⟨G, ok1⟩ => ?_
  obtain ⟨_, e0, r0⟩ := ok1.top
  cases e0
  cases r0 with
  | @dO a ob _ hp => exact ⟨a, ob, kvs, rfl, ok1.gh.nt _ _ hp rfl, q _ H1 G ok1.pop (jig_oitems hp)⟩
end
section
variable {Hy : PySem.W.Frag → Prop}
def asDO : D → M (List (KO × KO)) | .dO kvs => .ok kvs | _ => .no
@[simp] theorem asDO_dO {kvs : List (KO × KO)} : asDO (.dO kvs) = .ok kvs := (rfl)
theorem asDO_to {x : D} {kvs : List (KO × KO)} (h : asDO x = .ok kvs) : x = .dO kvs := by cases x <;> cases h; rfl
/-- d.get(k, z) -/
def SE.oget2 (o i c : SE Hy) : SE Hy where
  t K W := tOGet2 (o.t K W) (i.t K W) (c.t K W)
  f δ := (o.fd δ).bin fun x => (asDO x).bin fun kvs => (i.fd δ).bin fun y => (M.of (keyO y)).bin fun k => (c.fd δ).bin fun z => .ok (.d (((valO kvs k).map dKO).getD z))
  ok K hk W δ := by
    cases h1 : o.fd δ with
    | ok x =>
      cases h2 : asDO x with
      | ok kvs =>
        cases h3 : i.fd δ with
        | ok y =>
          cases h4 : keyO y with
          | some k =>
            cases h5 : c.fd δ with
            | ok z =>
              simp only [M.ok_bin, h2, h3, h4, M.of_some, h5]
              have e := asDO_to h2
              subst e
              exact ev_oget2 (o.okD hk h1) (i.okD hk h3) (c.okD hk h5) h4
            | _ => simp only [M.ok_bin, h2, h3, h4, M.of_some, h5]; trivial
          | none => simp only [M.ok_bin, h2, h3, h4]; trivial
        | _ => simp only [M.ok_bin, h2, h3]; trivial
      | _ => simp only [M.ok_bin, h2]; trivial
    | _ => trivial
/-- slot i such a dict of one's own -/
def okO : List S → Nat → M (List (KO × KO))
  | .oko kvs :: _, 0 => .ok kvs
  | _ :: l, i + 1 => okO l i
  | _, _ => .no
@[simp] theorem okO_0 {l : List S} {kvs : List (KO × KO)} : okO (.oko kvs :: l) 0 = .ok kvs := (rfl)
theorem okO_s {l : List S} {s : S} {i : Nat} : okO (s :: l) (i + 1) = okO l i := by cases s <;> rfl
@[simp] theorem okO_s1 {s : S} {l : List S} {i : Nat} : okO (s :: l) (i + 1) = okO l i := okO_s
theorem okO_ok : ∀ {δ : List S} {i : Nat} {kvs : List (KO × KO)}, okO δ i = .ok kvs → δ[i]? = some (.oko kvs)
  | [], i, s, h => by cases i <;> cases h
  | a :: l, 0, s, h => by cases a <;> cases h; rfl
  | a :: l, i + 1, s, h => by rw [okO_s] at h; simpa using okO_ok h
structure SPo (Hy : PySem.W.Frag → Prop) where
  t : PySem.W.Frag → WX → List (TE × TE)
  f : List S → M (List (KO × KO))
  ok : ∀ K, Hy K → ∀ W δ kvs, f δ = .ok kvs → EPO K (t K W) δ kvs
def SPo.nil : SPo Hy := ⟨fun _ _ => [], fun _ => .ok [], fun K hk W δ kvs h => by cases h; exact epo_nil⟩
def SPo.cons (a b : SE Hy) (r : SPo Hy) : SPo Hy where
  t K W := (a.t K W, b.t K W) :: r.t K W
  f δ := (a.fd δ).bin fun x => (M.of (keyO x)).bin fun k => (b.fd δ).bin fun y => (M.of (keyO y)).bin fun u => (r.f δ).bin fun l => .ok ((k, u) :: l)
  ok K hk W δ kvs h := by
    cases h1 : a.fd δ with
    | ok x =>
      cases h2 : keyO x with
      | some k =>
        cases h3 : b.fd δ with
        | ok y =>
          cases h5 : keyO y with
          | some u =>
            cases h4 : r.f δ with
            | ok l =>
              simp only [h1, M.ok_bin, h2, M.of_some, h3, h5, h4] at h
              cases h
              exact epo_cons (a.okD hk h1) h2 (b.okD hk h3) h5 (r.ok K hk W δ l h4)
            | _ => simp only [h1, M.ok_bin, h2, M.of_some, h3, h5, h4] at h; cases h
          | none => simp only [h1, M.ok_bin, h2, M.of_some, h3, h5] at h; cases h
        | _ => simp only [h1, M.ok_bin, h2, M.of_some, h3] at h; cases h
      | none => simp only [h1, M.ok_bin, h2] at h; cases h
    | _ => simp only [h1] at h; cases h
def SE.odisp (p : SPo Hy) : SE Hy where
  t K W := tODisp (p.t K W)
  f δ := (p.f δ).bin fun kvs => if kvs.length ≤ 15 then .ok (.oko (mergeO [] kvs)) else .no
  ok K hk W δ := by
    cases h : p.f δ with
    | ok kvs =>
      rw [M.ok_bin]
      by_cases z : kvs.length ≤ 15
      · rw [if_pos z]; exact ev_odisp (p.ok K hk W δ kvs h) z
      · rw [if_neg z]; trivial
    | _ => trivial
def SE.onew : SE Hy := ⟨fun _ _ => tONew, fun _ => .ok (.oko []), fun _ _ _ _ => ev_onew⟩
/-- d[k] = e -/
def SS.oput (i : Nat) (kx e : SE Hy) : SS Hy where
  t K W := sOPut (tVar i) (kx.t K W) (e.t K W)
  f δ := Fl.exn (okO δ i) fun kvs => Fl.exn (e.fd δ) fun y => Fl.exn (.of (keyO y)) fun u => Fl.exn (kx.fd δ) fun x => Fl.exn (.of (keyO x)) fun k => if kvs.length < sizeLine then .nx (δ.set i (.oko (putO kvs k u))) else .no
  ok K hk W δ := by
    cases h1 : okO δ i with
    | ok kvs =>
      cases h2 : e.fd δ with
      | ok y =>
        cases h5 : keyO y with
        | some u =>
          cases h3 : kx.fd δ with
          | ok x =>
            cases h4 : keyO x with
            | some k =>
              simp only [Fl.ok_exn, h5, h4, M.of_some]
              by_cases z : kvs.length < sizeLine
              · rw [if_pos z]; exact sd_oput (okO_ok h1) (e.okD hk h2) h5 (kx.okD hk h3) h4 z rfl
              · rw [if_neg z]; trivial
            | none => simp only [Fl.ok_exn, h5, h4, M.of_some]; trivial
          | _ => simp only [Fl.ok_exn, h5, M.of_some]; trivial
        | none => simp only [Fl.ok_exn, h5]; trivial
      | _ => trivial
    | _ => trivial
def frzOF (m : M (List (KO × KO))) (δ : List S) (i : Nat) (f : List S → Fl) : Fl := match m with | .ok xs => f (δ.set i (.d (.dO xs))) | _ => f δ
@[simp] theorem frzOF_ok {xs : List (KO × KO)} {δ : List S} {i : Nat} {f : List S → Fl} : frzOF (.ok xs) δ i f = f (δ.set i (.d (.dO xs))) := (rfl)
def SS.frzO (i : Nat) (a : SS Hy) : SS Hy where
  t K W := a.t K W
  f δ := frzOF (okO δ i) δ i a.f
  ok K hk W δ := by
    cases h : okO δ i with
    | ok xs =>
      refine sdf_of fun n => fun He Ge H σ Dn ⟨G, ok⟩ nx r bk ct xx => ?_
      obtain ⟨G', ok'⟩ := ok.freezeAtO (okO_ok h)
      exact a.okR hk n He Ge H σ Dn ⟨G', ok'⟩ nx r bk ct xx
    | _ => exact a.ok K hk W δ
/-- d.items() -/
def SI.oitems (a : SE Hy) : SI Hy where
  t K W := iOItems (a.t K W)
  f δ := (a.fd δ).bin fun x => (asDO x).bin fun kvs => .ok (itemsO kvs)
  ok K hk W δ := by
    cases h : a.fd δ with
    | ok x =>
      cases h2 : asDO x with
      | ok kvs =>
        simp only [M.ok_bin, h2]
        have e := asDO_to h2
        subst e
        exact ei_oitems (a.okD hk h)
      | _ => simp only [M.ok_bin, h2]; trivial
    | _ => trivial
variable {δ : List S}
@[simp] theorem SE.oget2_f (o i c : SE Hy) : (SE.oget2 o i c).f δ = (o.fd δ).bin fun x => (asDO x).bin fun kvs => (i.fd δ).bin fun y => (M.of (keyO y)).bin fun k => (c.fd δ).bin fun z => .ok (.d (((valO kvs k).map dKO).getD z)) := (rfl)
@[simp] theorem SPo.nil_f : (SPo.nil : SPo Hy).f δ = .ok [] := (rfl)
@[simp] theorem SPo.cons_f (a b : SE Hy) (r : SPo Hy) : (SPo.cons a b r).f δ = (a.fd δ).bin fun x => (M.of (keyO x)).bin fun k => (b.fd δ).bin fun y => (M.of (keyO y)).bin fun u => (r.f δ).bin fun l => .ok ((k, u) :: l) := (rfl)
@[simp] theorem SE.odisp_f (p : SPo Hy) : (SE.odisp p).f δ = (p.f δ).bin fun kvs => if kvs.length ≤ 15 then .ok (.oko (mergeO [] kvs)) else .no := (rfl)
@[simp] theorem SE.onew_f : (SE.onew : SE Hy).f δ = .ok (.oko []) := (rfl)
@[simp] theorem SS.oput_f (i : Nat) (kx e : SE Hy) : (SS.oput i kx e).f δ = Fl.exn (okO δ i) fun kvs => Fl.exn (e.fd δ) fun y => Fl.exn (.of (keyO y)) fun u => Fl.exn (kx.fd δ) fun x => Fl.exn (.of (keyO x)) fun k => if kvs.length < sizeLine then .nx (δ.set i (.oko (putO kvs k u))) else .no := (rfl)
@[simp] theorem SS.frzO_f (i : Nat) (a : SS Hy) : (SS.frzO i a).f δ = frzOF (okO δ i) δ i a.f := (rfl)
@[simp] theorem SI.oitems_f (a : SE Hy) : (SI.oitems a).f δ = (a.fd δ).bin fun x => (asDO x).bin fun kvs => .ok (itemsO kvs) := (rfl)
@[simp] theorem keyO_non : keyO .non = some none := (rfl)
@[simp] theorem keyO_int {i : Int} : keyO (.int i) = some (some i) := (rfl)
@[simp] theorem toD_okoS {kvs : List (KO × KO)} : toD (.oko kvs) = .ok (.dO kvs) := (rfl)
end
end Far
/-! list(range(a, b, c)) of ends of any size; a list beside an empty one, whatever it holds. -/
namespace Far
open PySem L2 PySem.Spec PyProof.Rows
def stepV (a c : Int) (n : Nat) : List V := (List.range n).map fun (i : Nat) => V.int (a + (i : Int) * c)
theorem vals_step {a c : Int} {n : Nat} {acc : Array Value} (h : ItemsOf (fun i v => ∃ t, v = Value.int (a + (i : Nat) * c) t) acc n) : Vals (stepV a c n) acc.toList := by
  have e : acc.toList.length = n := by rw [Array.length_toList]; exact h.1
  unfold stepV
  rw [← e]
  refine vals_of_get acc.toList (fun (i : Nat) => V.int (a + (i : Int) * c)) fun j u hj => ?_
  obtain ⟨t, rfl⟩ := h.2 j u (by rw [← Array.getElem?_toList]; exact hj)
  exact ⟨t, rfl⟩
section
variable {X : Cx}
def stepN (a b c : Int) : Nat := (Builtin.Range.rangeSize a b c).toNat
theorem stepN_of {a b c : Int} (h : 0 < c) : Builtin.Range.rangeSize a b c = (stepN a b c : Int) := by
  unfold stepN
  rw [Int.toNat_of_nonneg]
  unfold Builtin.Range.rangeSize
  rw [if_pos h]
  split
  · have := Int.ediv_nonneg (a := b - a - 1) (b := c) (by omega) (by omega); omega
  · exact Int.le_refl _
theorem stepN_eq {a b c : Int} (h : 0 < c) (hab : a < b) : (stepN a b c : Int) = (b - a - 1) / c + 1 := by
  rw [← stepN_of h]; unfold Builtin.Range.rangeSize; rw [if_pos h, if_pos hab]
def tLstRg3 (ta : TA) : TE := fun σ H Q => ta σ H fun vs H1 => ∃ a b c : Int, vs = [.int a, .int b, .int c] ∧ 0 < c ∧ c < 1073741824 ∧ stepN a b c ≤ 2 ^ 24 ∧ ∀ q, H1 q = none → Q (.ref q) (upd H1 q (.lst (stepV a c (stepN a b c))))
theorem pylong_no {x c : Int} (h0 : 0 < c) (h1 : c < 1073741824) : Builtin.divisionGoesByPylong x c = false := by
  have l : c.natAbs.log2 < 30 := (Nat.log2_lt (by omega)).mpr (by omega)
  have z : (c == 0) = false := by simpa using (by omega : c ≠ 0)
  unfold Builtin.divisionGoesByPylong
  simp only [z, Bool.false_eq_true, if_false]
  rw [decide_eq_false (by omega : ¬ c.natAbs.log2 / 30 + 1 > 300)]
  rfl
theorem pe_listRg3 {a b c : Expr} {ta : TA} {p p2 pos pos2 : Pos} (hc : X.calm = true) (hl : Gl X "list") (ml : X.mg "list" = none) (hg : Gl X "range") (hm : X.mg "range" = none) (ha : PA X [a, b, c] ta)
    (hs : starEach [a, b, c] X.env = (false, eval a X.env) :: starEach [b, c] X.env := by rfl) (hp : ((backTo pos (starEach [b, c] X.env)).any fun x => x.fst) = false := by rfl)
    (na : starEach [.Call (.Name "range" p) [a, b, c] [] pos] X.env = (false, eval (.Call (.Name "range" p) [a, b, c] [] pos) X.env) :: starEach [] X.env := by rfl) : PE X (.Call (.Name "list" p2) [.Call (.Name "range" p) [a, b, c] [] pos] [] pos2) (tLstRg3 ta) := by
  refine ⟨fun pins s σ H Q I h => ?_⟩
  refine Call_ (ld_blt I hl ml boot_list (PyProof.Rows.callWith_type1 (args_cons ?_ na) na))
  refine Call_ (ld_blt I hg hm boot_range (PyProof.Rows.callWith_type1 (thn (ha.run pos pins s σ H _ I h) fun us s1 ⟨vs, H1, I1, r1, q1⟩ => ?_) hs hp))
  obtain ⟨i, j, k, e, k0, k1, few, q⟩ := q1
  subst e
  cases r1 with
  | cons ra rr =>
    cases rr with
    | cons rb rr =>
      cases rr with
      | cons rc rr =>
        cases rr
        obtain ⟨t, rfl⟩ := ra
        obtain ⟨t', rfl⟩ := rb
        obtain ⟨t'', rfl⟩ := rc
        refine call_range_3 (by omega) (args_nil ?_) (.inl (pylong_no k0 k1))
        have I2 : Inv X pins σ H1 { s1 with heap := s1.heap.push { cls := .type "range", data := .fields #[.int i t, .int j t', .int k t''] } } := I1.kept (t' := s1.toks) fun b o e => Heap.get?_push_of_some _ e
        have hr : IsRange (s1.heap.push { cls := .type "range", data := .fields #[.int i t, .int j t', .int k t''] }) s1.heap.objs.size i j k t t' t'' := IsRange.new ..
        have fin : ∀ (h' : Heap) (tk : Nat) (acc : Array Value) (c' : Nat), (∀ b o, (s1.heap.push { cls := .type "range", data := .fields #[.int i t, .int j t', .int k t''] }).get? b = some o → h'.get? b = some o) → h'.get? (s1.heap.push { cls := .type "range", data := .fields #[.int i t, .int j t', .int k t''] }).objs.size = some { cls := .type "list", dict := none, data := .seq acc c', slots := #[] } →
            ItemsOf (fun m v => ∃ t, v = .int (i + (m : Nat) * k) t) acc (stepN i j k) → (∃ (x : V) (H' : Hp), Inv X pins σ H' { s1 with heap := h', toks := tk } ∧ RelV x (.ref (s1.heap.push { cls := .type "range", data := .fields #[.int i t, .int j t', .int k t''] }).objs.size) ∧ Q x H') := fun h' tk acc c' hk e' hi => by
          refine ⟨.ref _, upd H1 _ (.lst (stepV i k (stepN i j k))), I2.laid hk (Nat.le_refl _) (show ObjOk X.prog X.w _ _ _ (.lst (stepV i k (stepN i j k))) from ⟨?_, acc.toList, c', vals_step hi, ?_⟩), rfl, q _ (I2.hok.fresh (Nat.le_refl _))⟩
          · unfold stepV; rw [List.length_map, List.length_range, sizeLine_eq]; omega
          · rw [Array.toArray_toList]; exact e'
        cases hs : Builtin.Range.small i j k with
        | true => exact call_list_range (s := { s1 with heap := s1.heap.push { cls := .type "range", data := .fields #[.int i t, .int j t', .int k t''] } }) (n := stepN i j k) (I2.ok.hd hc) hr hs (stepN_of k0) few fin
        | false => exact call_list_far (s := { s1 with heap := s1.heap.push { cls := .type "range", data := .fields #[.int i t, .int j t', .int k t''] } }) (m := stepN i j k) (I2.ok.hd hc) hr hs (stepN_of k0) few fin
end
def rgS (a c : Int) (n : Nat) : List D := (List.range n).map fun i => .int (a + ((i : Nat) : Int) * c)
theorem rp_stepV {K : PySem.W.Frag} {G : Hp} (a c : Int) (n : Nat) : RpL K G (rgS a c n) (stepV a c n) := by
  unfold rgS stepV
  induction List.range n with
  | nil => exact .nil
  | cons i r ih => exact .cons .int ih
theorem ev_lstRg3 {K : PySem.W.Frag} {δ : List S} {ta : TA} {a b c : Int} (ha : EA K ta δ [.int a, .int b, .int c]) (k0 : 0 < c) (k1 : c < 1073741824) (hz : stepN a b c ≤ 16777216) : EV K (tLstRg3 ta) δ (.own (rgS a c (stepN a b c))) := by
  intro He Ge H τo τs σ hl ok Q q
  refine ha He Ge H τo τs σ hl ok _ fun vs H1 G ok1 r1 => ?_
  cases r1 with
  | cons r1 rr =>
    cases rr with
    | cons r2 rr =>
      cases rr with
      | cons r3 rr =>
        cases rr; cases r1; cases r2; cases r3
        exact ⟨a, b, c, rfl, k0, k1, by omega, fun p hp => q _ _ ⟨_, ok1.newOwn hp (rp_stepV a c _)⟩⟩
section
variable {Hy : PySem.W.Frag → Prop}
def lrg3F (xs : List D) : M S := match xs with | [.int a, .int b, .int c] => if 0 < c ∧ c < 1073741824 ∧ stepN a b c ≤ 16777216 then .ok (.own (rgS a c (stepN a b c))) else .no | _ => .no
def SE.lstRg3 (a : SA Hy) : SE Hy where
  t K W := tLstRg3 (a.t K W)
  f δ := (a.f δ).bin lrg3F
  ok K hk W δ := by
    cases h : a.f δ with
    | ok xs =>
      rw [M.ok_bin]
      unfold lrg3F
      split
      · split
        · rename_i q; exact ev_lstRg3 (a.okA hk h) q.1 q.2.1 q.2.2
        · trivial
      · trivial
    | _ => trivial
@[simp] theorem SE.lstRg3_f (a : SA Hy) (δ : List S) : (SE.lstRg3 a).f δ = (a.f δ).bin lrg3F := (rfl)
@[simp] theorem lrg3F_i {a b c : Int} : lrg3F [.int a, .int b, .int c] = if 0 < c ∧ c < 1073741824 ∧ stepN a b c ≤ 16777216 then .ok (.own (rgS a c (stepN a b c))) else .no := (rfl)
end
/-! ### a list beside an empty one -/
section
def rNeN (K : PySem.W.Frag) : R2 := fun x y H Q => ∃ a b xs ys, x = .ref a ∧ y = .ref b ∧ SqL K H a xs ∧ SqL K H b ys ∧ xs.length ≠ ys.length ∧ Q (.bl true) H
theorem op_neN {X : Cx} (hu : X.A.units + 64 < cLine) : OpR X (compareOp .NotEq) (rNeN X.K) := by
  intro pins s σ H x y v u Q I rx ry h
  obtain ⟨a, b, xs, ys, rfl, rfl, h1, h2, hne, q⟩ := h
  cases rx
  cases ry
  obtain ⟨its, r, ⟨⟨cls, dd, data, sl⟩, n, ho, hc, hdn, hd⟩, hs⟩ := I.list h1
  obtain ⟨its2, r2, ⟨⟨cls2, dd2, data2, sl2⟩, n2, ho2, hc2, hdn2, hd2⟩, hs2⟩ := I.list h2
  simp only at hc hd hc2 hd2
  subst hc hd hc2 hd2
  have e1 : xs.length = its.length := r.length
  have e2 : ys.length = its2.length := r2.length
  have ez : (its.toArray.size != its2.toArray.size) = true := by
    rw [bne_iff_ne, List.size_toArray, List.size_toArray]; omega
  show wpAny _ _ (richCompare .NotEq (.ref a) (.ref b)) _ _ _
  refine wpAny_richCompare_same_room (T := "list") (id := "list.__ne__") ⟨_, ho, rfl⟩ ⟨_, ho2, rfl⟩ F.slot_list_ne
    (call_meets F.slot_list_ne ⟨_, ho, rfl⟩ F.entry_list_ne (F.args_list_ne_2 _ _) (PySem.SeqAt.list_ne_lengthsAt a b its.toArray its2.toArray n n2 dd dd2 sl sl2 ez) ⟨ho, ho2, ?_⟩) (by omega)
  exact ⟨by decide, .bl true, _, I, rfl, q⟩
def rNeW (K : PySem.W.Frag) : R2 := fun x y H Q => rNeU K x y H Q ∨ rNeN K x y H Q
theorem op_neW {X : Cx} (hu : X.A.units + 64 < cLine) : OpR X (compareOp .NotEq) (rNeW X.K) := OpR.or (op_neU hu) (op_neN hu)
theorem ne_lstN {K : PySem.W.Frag} {a : D} {r : List D} : RV2 K (rNeW K) (.lst (a :: r)) (.lst []) (.d (.bl true)) := by
  intro He Ge H G σ δ v u ok rv ru Q q
  cases rv with
  | lst h1 r1 =>
    cases ru with
    | lst h2 r2 =>
      cases r1
      cases r2
      exact .inr ⟨_, _, _, _, rfl, rfl, SqL.of (ok.gh _ _ h1), SqL.of (ok.gh _ _ h2), by simp, q _ _ (done ok .bl)⟩
def neWF (x y : D) : Option S := match x, y with
  | .lst (a :: r), .lst [] => some (.d (.bl true))
  | x, y => neF2 x y
def oNeW : O2 where
  r K := rNeW K
  f := neWF
  ok K x y s h := by
    unfold neWF at h
    split at h
    · cases h; exact ne_lstN
    · exact fun He Ge H G σ δ v u ok rv ru Q q => .inl (oNe.ok K _ _ s h He Ge H G σ δ v u ok rv ru Q q)
@[simp] theorem oNeW_f : oNeW.f = neWF := (rfl)
theorem neWF_nil {xs : List D} : neWF (.lst xs) (.lst []) = some (.d (.bl (!xs.isEmpty))) := by
  cases xs with
  | nil =>
    show neF2 (.lst []) (.lst []) = _
    rw [neF2_of (by rfl) (fun _ z => by cases z)]; rfl
  | cons a r => rfl
def rEqN (K : PySem.W.Frag) : R2 := fun x y H Q => ∃ a b xs ys, x = .ref a ∧ y = .ref b ∧ SqL K H a xs ∧ SqL K H b ys ∧ xs.length ≠ ys.length ∧ Q (.bl false) H
theorem op_eqN {X : Cx} (hu : X.A.units + 64 < cLine) : OpR X (compareOp .Eq) (rEqN X.K) := by
  intro pins s σ H x y v u Q I rx ry h
  obtain ⟨a, b, xs, ys, rfl, rfl, h1, h2, hne, q⟩ := h
  cases rx
  cases ry
  obtain ⟨its, r, ⟨ob, n, ho, hc, hdn, hd⟩, hs⟩ := I.list h1
  obtain ⟨its2, r2, ⟨ob2, n2, ho2, hc2, hdn2, hd2⟩, hs2⟩ := I.list h2
  have e1 : xs.length = its.length := r.length
  have e2 : ys.length = its2.length := r2.length
  have ez : (its.toArray.size != its2.toArray.size) = true := by
    rw [bne_iff_ne, List.size_toArray, List.size_toArray]; omega
  exact PySem.SeqAt.eq_list_lengthsAt ⟨ob, ho, hc, n, hd⟩ ⟨ob2, ho2, hc2, n2, hd2⟩ ez (by omega) ⟨.bl false, _, I, rfl, q⟩
def rEqW (K : PySem.W.Frag) : R2 := fun x y H Q => rEqU K x y H Q ∨ rEqN K x y H Q
theorem op_eqW {X : Cx} (hu : X.A.units + 64 < cLine) : OpR X (compareOp .Eq) (rEqW X.K) := OpR.or (op_eqU hu) (op_eqN hu)
theorem eq_lstN {K : PySem.W.Frag} {a : D} {r : List D} : RV2 K (rEqW K) (.lst (a :: r)) (.lst []) (.d (.bl false)) := by
  intro He Ge H G σ δ v u ok rv ru Q q
  cases rv with
  | lst h1 r1 =>
    cases ru with
    | lst h2 r2 =>
      cases r1
      cases r2
      exact .inr ⟨_, _, _, _, rfl, rfl, SqL.of (ok.gh _ _ h1), SqL.of (ok.gh _ _ h2), by simp, q _ _ (done ok .bl)⟩
def eqWF (x y : D) : Option S := match x, y with
  | .lst (a :: r), .lst [] => some (.d (.bl false))
  | x, y => eqF2 x y
def oEqW : O2 where
  r K := rEqW K
  f := eqWF
  ok K x y s h := by
    unfold eqWF at h
    split at h
    · cases h; exact eq_lstN
    · exact fun He Ge H G σ δ v u ok rv ru Q q => .inl (oEq.ok K _ _ s h He Ge H G σ δ v u ok rv ru Q q)
@[simp] theorem oEqW_f : oEqW.f = eqWF := (rfl)
theorem eqWF_nil {xs : List D} : eqWF (.lst xs) (.lst []) = some (.d (.bl xs.isEmpty)) := by
  cases xs with
  | nil =>
    show eqF2 (.lst []) (.lst []) = _
    rw [eqF2_of (by rfl) (fun _ z => by cases z)]; rfl
  | cons a r => rfl
end
end Far
/-! dict(d), and two such dicts that are alike: of whole numbers and None. -/
namespace Far
open PySem L2 PySem.Spec PyProof.Rows
def tOCopy (te : TE) : TE := fun σ H Q => te σ H fun x H1 => ∃ a ob kvs, x = .ref a ∧ H1 a = some (DO a ob kvs) ∧ ∀ p ob', H1 p = none → Q (.ref p) (upd H1 p (DO p ob' kvs))
theorem pe_ocopy {X : Cx} {e : Expr} {te : TE} {p pos : Pos} (hg : Gl X "dict") (hm : X.mg "dict" = none) (he : PE X e te)
    (na : starEach [e] X.env = (false, eval e X.env) :: starEach [] X.env := by rfl) : PE X (.Call (.Name "dict" p) [e] [] pos) (tOCopy te) := by
  refine ⟨fun pins s σ H Q I h => ?_⟩
  refine Call_ (ld_blt I hg hm boot_dict (PyProof.Rows.callWith_type1 (args_cons (thn (he.run pins s σ H _ I h) fun u s1 ⟨x, H1, I1, rx, a, ob, kvs, ex, hd, q⟩ => args_nil ?_) na) na))
  subst ex
  obtain rfl : u = Value.ref a := rx
  exact d_copyO I1 hd fun p ob' s' hp I2 => ⟨.ref p, _, I2, rfl, q p ob' hp⟩
def rNeO : R2 := fun x y H Q => ∃ a b oa ob ks ls, x = .ref a ∧ y = .ref b ∧ H a = some (DO a oa ks) ∧ H b = some (DO b ob ls) ∧ ks.length = ls.length ∧ (∀ p ∈ ks, valO ls p.1 = some p.2) ∧ Q (.bl false) H
theorem hitsO {A : Around} {s : Shared} {ls : List (KO × KO)} {us : List (KO × Value)} (rel : KV (encO ls) us) : ∀ {ks : List (KO × KO)} {vs : List (KO × Value)}, KV (encO ks) vs → (∀ p ∈ ks, valO ls p.1 = some p.2) → PySem.W.KeqHits A s us vs true
  | [], _, r, _ => by
    have r' : KV [] _ := r
    cases r'; exact .nil
  | p :: ks, _, r, h => by
    have r' : KV ((p.1, vO p.2) :: encO ks) _ := r
    cases r' with
    | @cons _ b _ bs h1 t =>
      obtain ⟨b1, b2⟩ := b
      have e1 : p.1 = b1 := h1.1
      have r2 : RelV (vO p.2) b2 := h1.2
      have q := rel.val b1
      rw [valV_enc, ← e1, h p (List.mem_cons_self ..)] at q
      cases hv : valueAt us p.1 with
      | none => rw [hv] at q; exact False.elim q
      | some y =>
        rw [hv] at q
        have ry : RelV (vO p.2) y := q
        rw [e1] at hv
        have ih := hitsO (A := A) (s := s) rel t fun z hz => h z (List.mem_cons_of_mem _ hz)
        have eq : PySem.SeqAt.EqAt A s b2 y true := fun prog w E Q q => (oKind prog w).eqBool (a := p.2) (b := p.2) (vO_is r2) (vO_is ry) (by rw [decide_eq_true rfl]; exact q)
        exact PySem.W.KeqHits.hit (e := true) (b := true) hv eq ih
theorem op_neO {X : Cx} (hu : X.A.units + 64 < cLine) : OpR X (compareOp .NotEq) rNeO := by
  intro pins s σ H x y v u Q I rx ry h
  obtain ⟨a, b, oa, ob, ks, ls, rfl, rfl, h1, h2, hl, hk, q⟩ := h
  cases rx
  cases ry
  obtain ⟨_, hs1, _, vs, rel, dd⟩ := do_rd I h1
  obtain ⟨_, hs2, _, us, rel2, dd2⟩ := do_rd I h2
  have l1 : ks.length = vs.length := by have := Paired.length rel; unfold encO at this; rwa [List.length_map] at this
  have l2 : ls.length = us.length := by have := Paired.length rel2; unfold encO at this; rwa [List.length_map] at this
  refine PySem.W.keq_ne hs1 hs2 dd dd2 (by omega) (fun _ => hitsO rel2 rel hk) ⟨.bl false, _, I, ?_, q⟩
  rw [show (vs.length == us.length) = true by rw [beq_iff_eq]; omega]
  rfl
def rNeV (K : PySem.W.Frag) : R2 := fun x y H Q => rNeU K x y H Q ∨ rNeO x y H Q
theorem op_neV {X : Cx} (hu : X.A.units + 64 < cLine) : OpR X (compareOp .NotEq) (rNeV X.K) := OpR.or (op_neU hu) (op_neO hu)
def sameO (ks ls : List (KO × KO)) : Bool := decide (ks.length = ls.length) && ks.all fun p => decide (valO ls p.1 = some p.2)
theorem ne_dO {K : PySem.W.Frag} {ks ls : List (KO × KO)} (h : sameO ks ls = true) : RV2 K (rNeV K) (.dO ks) (.dO ls) (.d (.bl false)) := by
  intro He Ge H G σ δ v u ok rv ru Q q
  unfold sameO at h
  rw [Bool.and_eq_true, decide_eq_true_eq, List.all_eq_true] at h
  cases rv with
  | dO h1 =>
    cases ru with
    | dO h2 => exact .inr ⟨_, _, _, _, _, _, rfl, rfl, ok.gh _ _ h1, ok.gh _ _ h2, h.1, fun p hp => by simpa using h.2 p hp, q _ _ (done ok .bl)⟩
def neVF (x y : D) : Option S := match x, y with
  | .dO ks, .dO ls => if sameO ks ls = true then some (.d (.bl false)) else none
  | x, y => neF2 x y
def oNeV : O2 where
  r K := rNeV K
  f := neVF
  ok K x y s h := by
    unfold neVF at h
    split at h
    · split at h
      · rename_i q; cases h; exact ne_dO q
      · cases h
    · exact fun He Ge H G σ δ v u ok rv ru Q q => .inl (oNe.ok K _ _ s h He Ge H G σ δ v u ok rv ru Q q)
@[simp] theorem oNeV_f : oNeV.f = neVF := (rfl)
@[simp] theorem neVF_dO {ks ls : List (KO × KO)} : neVF (.dO ks) (.dO ls) = if sameO ks ls = true then some (.d (.bl false)) else none := (rfl)
section
variable {Hy : PySem.W.Frag → Prop} {δ : List S}
theorem ev_ocopy {K : PySem.W.Frag} {te : TE} {kvs : List (KO × KO)} (h : EV K te δ (.d (.dO kvs))) : EV K (tOCopy te) δ (.oko kvs) := by
  intro He Ge H τo τs σ hl ok Q q
  refine h He Ge H τo τs σ hl ok _ fun v H1 ⟨G, ok1⟩ => ?_
  obtain ⟨_, e1, r1⟩ := ok1.top
  cases e1
  cases r1 with
  | dO hd => exact ⟨_, _, _, rfl, ok1.gh _ _ hd, fun p ob hp => q _ _ ⟨G, ok1.pop.newO hp⟩⟩
def ocopyF (x : D) : M S := match x with | .dO kvs => .ok (.oko kvs) | _ => .no
def SE.ocopy (e : SE Hy) : SE Hy where
  t K W := tOCopy (e.t K W)
  f δ := (e.fd δ).bin ocopyF
  ok K hk W δ := by
    cases h : e.fd δ with
    | ok x =>
      rw [M.ok_bin]
      unfold ocopyF
      split
      · exact ev_ocopy (e.okD hk h)
      · trivial
    | _ => trivial
@[simp] theorem SE.ocopy_f (e : SE Hy) : (SE.ocopy e).f δ = (e.fd δ).bin ocopyF := (rfl)
@[simp] theorem ocopyF_dO {kvs : List (KO × KO)} : ocopyF (.dO kvs) = .ok (.oko kvs) := (rfl)
end
end Far
/-! enumerate(tuple). -/
namespace PySem
open Sem (wp)
open AutoSeq1 (wpAny_loadPart')
theorem meets_enumerate_newT (l : Addr) (items : Array Value) (n : Nat) (dct : Option Addr) (sl : Array (Option Value)) :
    Meets (Builtin.«enumerate.__new__» ⟨[.type "enumerate", .ref l], []⟩) (fun _ R s => s.heap.get? l = some { cls := .type "tuple", dict := dct, data := .seq items n, slots := sl } ∧
      R (.ok (.ret (.ref (s.heap.push { cls := .type "tuple_iterator", data := .fields #[.ref l, .int 0 0] }).objs.size)))
        { s with heap := (s.heap.push { cls := .type "tuple_iterator", data := .fields #[.ref l, .int 0 0] }).push { cls := .type "enumerate", data := .fields #[.none, .bool false, .ref s.heap.objs.size, rawInt 0, .none, .none] } }) :=
  .of_wp fun prog w A R s h => by
    obtain ⟨hp, g, d, tk, os⟩ := s; obtain ⟨hl, h⟩ := h
    have hsub := sub_enumerate
    have hT : Heap.IsTuple (Shared.heap ⟨hp, g, d, tk, os⟩) l items := ⟨_, hl, rfl, n, rfl⟩
    wp_walk using wpAny_loadPart' hl
    refine wpAny_stack_any fun st => wpAny_pure ?_
    split
    · rename_i c _ _ _ _ _
      cases (c == Value.type "enumerate")
      · wp_walk using wpAny_loadPart' hl, wpAny_pyIter_tuple hT
        exact ⟨_, rfl, h⟩
      · wp_walk using wpAny_loadPart' hl, wpAny_pyIter_tuple hT
        exact ⟨_, rfl, h⟩
    · wp_walk using wpAny_loadPart' hl, wpAny_pyIter_tuple hT
      exact ⟨_, rfl, h⟩
section
variable {prog : Program} {w : World} {A : Around} {E : Value → Shared → Prop} {s : Shared}
theorem call_enumerate_tuple {l : Addr} {items : Array Value} {Q : Value → Shared → Prop} (hL : s.heap.IsTuple l items)
    (h : ∀ h', IsEnum h' (s.heap.objs.size + 1) s.heap.objs.size 0 .none → h'.IsTupleIter s.heap.objs.size l 0 → h'.objs.size = s.heap.objs.size + 2 →
      (∀ b o, s.heap.get? b = some o → h'.get? b = some o) → Q (.ref (s.heap.objs.size + 1)) { s with heap := h' }) :
    wpAny (model prog w) A (call (.type "enumerate") [.ref l]) Q E s := by
  obtain ⟨⟨c, dct, dt, sl⟩, hl, hc, n, hd⟩ := hL
  replace hc : c = .type "tuple" := hc
  replace hd : dt = .seq items n := hd
  subst hc hd
  refine callType_new F.called_enumerate (by decide) (F.typeCall_enumerate_1 _) (F.newCall_enumerate_1 _) (fun obj => F.args_object_init_2 obj _) F.entry_enumerate_new
    (meets_enumerate_newT l items n dct sl) ⟨hl, ?_⟩
  have hz : (s.heap.push { cls := .type "tuple_iterator", data := .fields #[.ref l, .int 0 0] }).objs.size = s.heap.objs.size + 1 := Heap.size_push ..
  show _ ∧ _
  rw [hz]
  have he : IsEnum ((s.heap.push { cls := .type "tuple_iterator", data := .fields #[.ref l, .int 0 0] }).push
      { cls := .type "enumerate", data := .fields #[.none, .bool false, .ref s.heap.objs.size, rawInt 0, .none, .none] }) (s.heap.objs.size + 1) s.heap.objs.size 0 .none := by
    have := Heap.get?_push_size (s.heap.push { cls := .type "tuple_iterator", data := .fields #[.ref l, .int 0 0] })
      (o := { cls := .type "enumerate", data := .fields #[.none, .bool false, .ref s.heap.objs.size, rawInt 0, .none, .none] }) rfl
    rw [hz] at this; exact this
  refine ⟨⟨_, he, rfl⟩, h _ he ⟨_, Heap.get?_push_of_some _ (Heap.get?_push_size _ rfl), rfl, rfl⟩ (by rw [Heap.size_push, hz]) fun b o x => Heap.get?_push_of_some _ (Heap.get?_push_of_some _ x)⟩
end
end PySem
namespace Far
open PySem L2 PySem.Spec PyProof.Rows
/-- the tuple at a, each item in a new pair -/
def IteT (K : PySem.W.Frag) (a : Addr) : It :=
  ⟨fun i H => ∃ (xs : List V) (x : V), SqT K H a xs ∧ xs[i]? = some x, fun i H v H' => ∃ T x, v = .ref T ∧ H T = none ∧ H' = upd H T (.tup [.int (i : Nat), x]) ∧ ∀ xs, SqT K H a xs → xs[i]? = some x, fun i H => ∃ xs : List V, SqT K H a xs ∧ xs.length ≤ i⟩
theorem turn_enumT {P : Program} {w : World} {K : PySem.W.Frag} {elts : List Expr} {kk : Nat} {tpos : Pos} (a e it : Addr) :
    Turn P w K (.Tuple elts kk tpos) (IteT K a) [e, it] e (fun i h => (∃ old, IsEnum h e it ((i : Nat) : Int) old) ∧ h.IsTupleIter it a i ∧ e ≠ it) where
  mem := by simp
  obj := fun i h st b hb => by
    obtain ⟨⟨old, he⟩, ⟨o, ho, hc, hd⟩, _⟩ := st
    have e' : b = e ∨ b = it := by simpa using hb
    rcases e' with z | z
    · rw [z]; exact ⟨_, he, fun v q => nomatch q⟩
    · rw [z]; exact ⟨o, ho, fun v q => by rw [hd] at q; cases q⟩
  keep := fun i h h' st k => let ⟨⟨old, he⟩, hi, hne⟩ := st; ⟨⟨old, k e (by simp) _ he⟩, hi.at fun o q => k it (by simp) o q, hne⟩
  item := by
    intro X hP hw hK hc i pins s σ H E I hf st hg
    subst hP hw hK
    obtain ⟨⟨old, he⟩, hit, hne⟩ := st
    obtain ⟨xs, x, hq, hx⟩ := hg
    obtain ⟨its, rv, p, hz⟩ := I.tuple hq
    obtain ⟨u, hu, ru⟩ := rv.get hx
    have hel : e < s.heap.objs.size := Heap.lt_size he
    have hil : it < s.heap.objs.size := by obtain ⟨_, q, _⟩ := hit; exact Heap.lt_size q
    have hpt : s.heap.IsTuple a its.toArray := by
      obtain ⟨o, ho, hc2, n, hd⟩ := p
      exact ⟨o, ho, hc2, n, hd⟩
    have hat : a ≠ it := fun z => by
      obtain ⟨o, ho, hc2, _⟩ := hit
      obtain ⟨o2, ho2, hc3, _⟩ := hpt
      rw [z, ho] at ho2; cases ho2
      rw [hc2] at hc3; injection hc3 with q; exact absurd q (by decide)
    have hae : e ≠ a := fun z => by
      obtain ⟨o2, ho2, hc3, _⟩ := hpt
      have he' := he
      unfold IsEnum at he'
      rw [z, ho2] at he'; cases he'; injection hc3 with q; exact absurd q (by decide)
    have hlt : i < its.toArray.size := by
      have := (List.getElem?_eq_some_iff.mp hu).1
      simpa using this
    have D0 := Draws.tuple (prog := X.prog) (w := X.w) (A := X.A.in1) (I.ok.hd hc) it a hat its.toArray
    refine wpAny_pyNext_enum_itemD (D := D0) he ⟨hit, hpt⟩ hlt hne (by simp; exact ⟨hne, hae⟩) fun u' h' tk hu' ho st' hT hsz hk => ?_
    obtain ⟨hit', _⟩ := st'
    have hux : u' = u := by
      have hu2 : its.toArray[i]? = some u := by simpa using hu
      rw [hu2] at hu'; exact (Option.some.inj hu').symm
    subst hux
    refine ⟨_, rfl, wpAny_letOwnedTupleGo_enum (s := { s with heap := h', toks := tk + 1 }) ho fun h'' he' sb => ?_⟩
    have hT2 : h''.get? s.heap.objs.size = some { cls := .type "tuple", data := .seq #[.int i tk, u'] } := (sb.2 _ (Nat.ne_of_gt hel)).trans hT
    have new : ObjOk X.prog X.w (upd H s.heap.objs.size (.tup [.int (i : Nat), x])) h'' s.heap.objs.size (.tup [.int (i : Nat), x]) :=
      ⟨by show 2 ≤ sizeLine; decide, [.int i tk, u'], .cons ⟨_, rfl⟩ (.cons ru .nil), ⟨_, hT2, rfl, _, rfl⟩⟩
    have I1 : Inv X pins σ (upd H s.heap.objs.size (.tup [.int (i : Nat), x])) { s with heap := h'', toks := tk + 1 } :=
      I.turnedNew (ch := [e, it]) (fun b ob hb q => (sb.2 b (fun z => hb (by simp [z]))).trans (hk b ob (fun z => hb (by simp [z])) (fun z => hb (by simp [z])) q)) hf (Nat.le_refl _) new
    refine ⟨.ref s.heap.objs.size, _, I1, rfl, ⟨_, x, rfl, I.hok.fresh (Nat.le_refl _), rfl, fun ys hy => by rw [I.tuple_inj hy hq]; exact hx⟩, ⟨⟨u', ?_⟩, hit'.at fun o q => (sb.2 it (Ne.symm hne)).trans q, hne⟩, fun b hb => ?_⟩
    · have e1 : ((i + 1 : Nat) : Int) = (i : Int) + 1 := by omega
      rw [e1]; exact he'
    · have hb' : b < s.heap.objs.size := by
        have e' : b = e ∨ b = it := by simpa using hb
        rcases e' with z | z
        · rw [z]; exact hel
        · rw [z]; exact hil
      rw [upd_ne (Nat.ne_of_lt hb')]
      exact (hf b hb).1
  done := by
    intro X hP hw hK hc i pins s σ H E I hf st hg
    subst hP hw hK
    obtain ⟨⟨old, he⟩, hit, hne⟩ := st
    obtain ⟨xs, hq, hx⟩ := hg
    obtain ⟨its, rv, p, hz⟩ := I.tuple hq
    obtain ⟨f0, f1, f2, f3, f4, f5⟩ := hf it (by simp)
    have hl := rv.length
    have hpt : s.heap.IsTuple a its.toArray := by
      obtain ⟨o, ho, hc2, n, hd⟩ := p
      exact ⟨o, ho, hc2, n, hd⟩
    have hT : s.TypeIs (.ref e) "enumerate" := ⟨_, he, rfl⟩
    unfold pyNext
    refine wpAny_bind (wpAny_attempt (wpAny_callSpecial?_slot (name := Str.ofString "__next__") hT F.slot_enumerate_next
      (wpAny_call_entry F.slot_enumerate_next hT F.entry_enumerate_next ?_ (F.args_enumerate_next_1 _))))
    show wpAny _ _ (field (.ref e) 2 >>= _) _ _ _
    refine wpAny_bind (wpAny_field he rfl (x := .ref it) rfl ?_)
    refine wpAny_bind (wpAny_nextOf_tuple_end (I.ok.hd hc) hit hpt (by simp; omega) fun h' x he' hx' => ?_)
    obtain ⟨o, ho, hc2⟩ := hx'
    refine wpAny_bind (wpAny_isInstance (T := "StopIteration") (b := true) ⟨o, ho, hc2⟩ isSubtype_stop ?_)
    exact wpAny_pure ⟨rfl, I.turned (t' := s.toks) (fun b o hb q => he' b o hb q) f0 f1 f3 f4 f5⟩
  self := fun A i s Q E st h => let ⟨⟨_, he⟩, _⟩ := st; wpAny_pyIter_enum he h
def iEnumT (K : PySem.W.Frag) (ta : TA) : TI := fun σ H R => ta σ H fun vs H1 => ∃ a xs, vs = [.ref a] ∧ SqT K H1 a xs ∧ R (IteT K a) H1
theorem pi_enumT {X : Cx} {e : Expr} {ta : TA} {p pos tpos : Pos} {elts : List Expr} {kk : Nat} (hg : Gl X "enumerate") (hm : X.mg "enumerate" = none) (ha : PA X [e] ta) (hs : starEach [e] X.env = [(false, eval e X.env)] := by rfl) :
    PI X (.Tuple elts kk tpos) (.Call (.Name "enumerate" p) [e] [] pos) (iEnumT X.K ta) := by
  refine ⟨fun pins s σ H R I h => ?_⟩
  refine Call_ (ld_blt I hg hm boot_enumerate (PyProof.Rows.callWith_type1 (thn (ha.run pos pins s σ H _ I h) fun us s1 ⟨vs, H1, I1, r1, q1⟩ => ?_) hs rfl))
  obtain ⟨a, xs, ex, hq, q⟩ := q1
  subst ex
  cases r1 with
  | cons r rr =>
    cases rr
    cases r
    obtain ⟨its, rv, p', hz⟩ := I1.tuple hq
    have hpt : s1.heap.IsTuple a its.toArray := by
      obtain ⟨o, ho, hc2, n, hd⟩ := p'
      exact ⟨o, ho, hc2, n, hd⟩
    refine call_enumerate_tuple hpt fun h' he hit hsz hk => wpAny_pyIter_enum he ?_
    have I2 : Inv X pins σ H1 { s1 with heap := h' } := I1.kept (t' := s1.toks) hk
    refine ⟨s1.heap.objs.size + 1, [s1.heap.objs.size + 1, s1.heap.objs.size], _, _, H1, rfl, I2, turn_enumT a (s1.heap.objs.size + 1) s1.heap.objs.size, ⟨⟨.none, he⟩, hit, Nat.succ_ne_self _⟩, fun b hb => ?_, q⟩
    have e' : b = s1.heap.objs.size + 1 ∨ b = s1.heap.objs.size := by simpa using hb
    have hle : s1.heap.objs.size ≤ b := by
      rcases e' with z | z
      · rw [z]; exact Nat.le_add_right _ _
      · rw [z]; exact Nat.le_refl _
    exact I1.fpOk hle (I1.hok.fresh hle)
/-- either way an iterator begins -/
def iEither (a b : TI) : TI := fun σ H R => a σ H R ∨ b σ H R
theorem pi_either {X : Cx} {tg e : Expr} {a b : TI} (ha : PI X tg e a) (hb : PI X tg e b) : PI X tg e (iEither a b) :=
  ⟨fun pins s σ H R I h => h.elim (ha.run pins s σ H R I) (hb.run pins s σ H R I)⟩
section
variable {K : PySem.W.Frag} {δ : List S}
theorem jig_enumT {G : Hp} {a : Addr} {vs : List V} {xs : List D} (hp : SqT K G a vs) (r : RpL K G xs vs) : JIg K G (IteT K a) (enumD 0 xs) := fun H G1 e1 e2 => by
  have h : SqT K H a vs := (e1.trans e2).t hp
  have hl := r.length
  rw [enumD_len]
  refine ⟨fun i hi => ⟨vs, vs[i], h, List.getElem?_eq_getElem (by omega)⟩, fun i v H' hy hi => ?_, fun i hi => ⟨vs, h, by omega⟩⟩
  obtain ⟨T, x, rfl, hT, rfl, hx⟩ := hy
  have ex := hx vs h
  obtain ⟨y, ey, ry⟩ := r.getV ex
  obtain ⟨G2, g1, g2, g3, g4, rp⟩ := grow_tup (K := K) (xs := [.int (i : Int), y]) (vs := [.int (i : Int), x]) e2 hT (.cons .int (.cons (ry.mono e1) .nil))
  exact ⟨G2, _, g1, g2, g3, g4, by rw [enumD_get, ey, Nat.zero_add]; rfl, rp⟩
theorem ei_enumT {tr : TA} {xs : List D} (h : EA K tr δ [.tup xs]) : EI K (iEnumT K tr) δ (enumD 0 xs) := by
  intro He Ge H τo τs σ hl ok R q
  refine h He Ge H τo τs σ hl ok _ fun vs H1 G ok1 r1 => ?_
  cases r1 with
  | cons r1 r2 =>
    cases r2
    cases r1 with
    | tup hp r => exact ⟨_, _, rfl, ok1.gh.t hp.t, q _ H1 G ok1 (jig_enumT hp.t r)⟩
theorem ei_left {a b : TI} {xs : List D} (h : EI K a δ xs) : EI K (iEither a b) δ xs := fun He Ge H τo τs σ hl ok R q => .inl (h He Ge H τo τs σ hl ok R q)
theorem ei_right {a b : TI} {xs : List D} (h : EI K b δ xs) : EI K (iEither a b) δ xs := fun He Ge H τo τs σ hl ok R q => .inr (h He Ge H τo τs σ hl ok R q)
end
section
variable {Hy : PySem.W.Frag → Prop}
def enumTF (xs : List D) : M (List D) := match xs with | [.lst ys] => .ok (enumD 0 ys) | [.tup ys] => .ok (enumD 0 ys) | _ => .no
/-- enumerate of a list or a tuple -/
def SI.enumerate2 (a : SA Hy) : SI Hy where
  t K W := iEither (iEnum K (a.t K W)) (iEnumT K (a.t K W))
  f δ := (a.f δ).bin enumTF
  ok K hk W δ := by
    cases h : a.f δ with
    | ok xs =>
      rw [M.ok_bin]
      unfold enumTF
      split
      · exact ei_left (ei_enum (a.okA hk h))
      · exact ei_right (ei_enumT (a.okA hk h))
      · trivial
    | _ => trivial
@[simp] theorem SI.enumerate2_f (a : SA Hy) (δ : List S) : (SI.enumerate2 a).f δ = (a.f δ).bin enumTF := (rfl)
@[simp] theorem enumTF_l {xs : List D} : enumTF [.lst xs] = .ok (enumD 0 xs) := (rfl)
@[simp] theorem enumTF_t {xs : List D} : enumTF [.tup xs] = .ok (enumD 0 xs) := (rfl)
end
end Far
/-! Objects of one's own: lent to an expression, changed by their methods. -/
namespace Far
open PySem L2
/-! ### lent -/
/-- what may leave an expression to which objects of the classes Cs are lent; lists, where none of one's own is lent -/
def rfo (Cs : List Addr) (ll : Bool) : D → Bool
  | .non => true | .bl _ => true | .int _ => true | .str _ => true | .ty _ => true | .cls _ => true
  | .tup xs => rfoL xs | .lst xs => ll && rfoL xs | .ins C fs => !(Cs.contains C) && rfoF fs
  | _ => false
where
  rfoL : List D → Bool
    | [] => true
    | x :: r => rfo Cs ll x && rfoL r
  rfoF : List (Str × D) → Bool
    | [] => true
    | (_, x) :: r => rfo Cs ll x && rfoF r
section
variable {Cs : List Addr} {ll : Bool}
theorem rfoL_all : ∀ xs : List D, rfo.rfoL Cs ll xs = xs.all (rfo Cs ll)
  | [] => by simp [rfo.rfoL]
  | x :: r => by rw [rfo.rfoL, List.all_cons, rfoL_all r]
theorem rfoF_all : ∀ fs : List (Str × D), rfo.rfoF Cs ll fs = fs.all fun p => rfo Cs ll p.2
  | [] => by simp [rfo.rfoF]
  | (f, x) :: r => by rw [rfo.rfoF, List.all_cons, rfoF_all r]
variable {K : PySem.W.Frag} {G G2 : Hp}
mutual
theorem Rp.trimO (hG : ∀ a o, G a = some o → ((∃ us, o = .lst us) → ll = true) → (∀ us, o ≠ .dK us) → (∀ C dx gs, C ∈ Cs → o ≠ .ins C dx gs) → ntb o = true → G2 a = some o) : ∀ {x : D} {v : V}, rfo Cs ll x = true → Rp K G x v → Rp K G2 x v
  | _, _, _, .non => .non
  | _, _, _, .bl => .bl
  | _, _, _, .int => .int
  | _, _, _, .str => .str
  | _, _, _, .ty => .ty
  | _, _, _, .cls => .cls
  | _, _, l, .tup h r => .tup (h.imp (fun ⟨o, h1, h2⟩ => ⟨o, hG _ _ h1 (fun ⟨us, z⟩ => by cases z) (fun us z => by cases z) (fun _ _ _ _ z => by cases z) rfl, h2⟩) id) (RpL.trimO hG (by simpa [rfo] using l) r)
  | _, _, l, .utp h r => by simp [rfo] at l
  | _, _, l, .lst h r => by
    rw [rfo, Bool.and_eq_true] at l
    exact .lst (hG _ _ h (fun _ => l.1) (fun us z => by cases z) (fun _ _ _ _ z => by cases z) rfl) (RpL.trimO hG l.2 r)
  | _, _, l, .scr h r => by simp [rfo] at l
  | _, _, l, .ins h r => by
    rw [rfo, Bool.and_eq_true] at l
    refine .ins (hG _ _ h (fun ⟨us, z⟩ => by cases z) (fun us z => by cases z) (fun C dx gs hC z => ?_) rfl) (RpF.trimO hG l.2 r)
    cases z
    have := l.1
    simp at this
    exact this hC
  | _, _, l, .dK h r => by simp [rfo] at l
  | _, _, l, .dO h => by simp [rfo] at l
  | _, _, l, .exc0 h => by simp [rfo] at l
  | _, _, l, .exc1 h h2 r n => by simp [rfo] at l
  | _, _, l, .exo h => by simp [rfo] at l
  | _, _, l, .lam h r => by simp [rfo] at l
theorem RpL.trimO (hG : ∀ a o, G a = some o → ((∃ us, o = .lst us) → ll = true) → (∀ us, o ≠ .dK us) → (∀ C dx gs, C ∈ Cs → o ≠ .ins C dx gs) → ntb o = true → G2 a = some o) : ∀ {xs : List D} {vs : List V}, rfo.rfoL Cs ll xs = true → RpL K G xs vs → RpL K G2 xs vs
  | _, _, _, .nil => .nil
  | _, _, l, .cons h r => by
    rw [rfo.rfoL, Bool.and_eq_true] at l
    exact .cons (Rp.trimO hG l.1 h) (RpL.trimO hG l.2 r)
theorem RpF.trimO (hG : ∀ a o, G a = some o → ((∃ us, o = .lst us) → ll = true) → (∀ us, o ≠ .dK us) → (∀ C dx gs, C ∈ Cs → o ≠ .ins C dx gs) → ntb o = true → G2 a = some o) : ∀ {xs : List (Str × D)} {vs : List (Str × V)}, rfo.rfoF Cs ll xs = true → RpF K G xs vs → RpF K G2 xs vs
  | _, _, _, .nil => .nil
  | _, _, l, .cons h r => by
    rw [rfo.rfoF, Bool.and_eq_true] at l
    exact .cons (Rp.trimO hG l.1 h) (RpF.trimO hG l.2 r)
end
end
def lendSO : S → S | .own xs => .d (.lst xs) | .okd xs => .d (.dK xs) | .oko _ => .un | .ob _ C fs => .d (.ins C fs) | s => s
/-- which slots may be lent so -/
def okl (Cs : List Addr) (ll : Bool) : S → Bool | .own _ => !ll | .ob _ C _ => Cs.contains C | .oko _ => false | _ => true
/-- what is not lent, while others are -/
def wkS (s : S) : S := if owned s = true then .un else s
open Classical in
theorem lend_core {K : PySem.W.Frag} {He Ge H G : Hp} {σ : L2.St} {δ0 δ : List S} {Cs : List Addr} {ll : Bool} (ok : OKG K He Ge H G σ (δ0 ++ δ)) (hd : δ.all (okl Cs ll) = true) :
    ∃ Gp, OKG K H Gp H Gp σ (δ0.map wkS ++ δ.map lendSO) ∧ ∀ (σ2 : L2.St) (δ2 : List S) (H' G' : Hp), OKG K H Gp H' G' σ2 δ2 → ∃ G2, OKG K He Ge H' G2 σ (δ0 ++ δ) ∧ (∀ a o, G' a = some o → ((∃ us, o = .lst us) → ll = true) → (∀ us, o ≠ .dK us) → (∀ C dx gs, C ∈ Cs → o ≠ .ins C dx gs) → ntb o = true → G2 a = some o) ∧ (∀ p, H p = none → G2 p = G' p) := by
  let L : Addr → Prop := fun a => ∃ (i : Nat) (s : S), δ[i]? = some s ∧ owned s = true ∧ σ[δ0.length + i]? = some (some (V.ref a))
  let Gp : Hp := fun a => if L a then H a else G a
  have hdi : ∀ i s, δ[i]? = some s → okl Cs ll s = true := fun i s h => List.all_eq_true.mp hd s (List.mem_of_getElem? h)
  have hat : ∀ i s, δ[i]? = some s → (δ0 ++ δ)[δ0.length + i]? = some s := fun i s h => by rw [List.getElem?_append_right (Nat.le_add_right _ _), Nat.add_sub_cancel_left]; exact h
  have hL : ∀ a, L a → ∃ u, H a = some u ∧ G a = none ∧ ((∃ vs, u = .lst vs ∧ ll = false) ∨ (∃ vs, u = .dK vs) ∨ ∃ C dx gs, C ∈ Cs ∧ u = .ins C dx gs) := by
    rintro a ⟨i, s, h1, ho, h2⟩
    obtain ⟨o, e, k⟩ := ok.sl _ _ (hat i s h1)
    rw [e] at h2; cases h2
    have := hdi i _ h1
    cases s with
    | un => cases ho
    | ot _ _ _ => cases ho
    | d x => cases ho
    | own xs =>
      obtain ⟨p, vs, e3, k1, k2, k3, r⟩ := k
      cases e3
      exact ⟨_, k3, k2, .inl ⟨vs, rfl, by simpa [okl] using this⟩⟩
    | okd xs =>
      obtain ⟨p, vs, e3, k1, k2, k3, r⟩ := k
      cases e3
      exact ⟨_, k3, k2, .inr (.inl ⟨vs, rfl⟩)⟩
    | oko xs => cases this
    | ob q C fs =>
      obtain ⟨a1, dx, gs, e3, hq, k1, k2, k3, k4, k5, k6, r⟩ := k
      cases e3
      exact ⟨_, k5, k2, .inr (.inr ⟨C, dx, gs, by simpa [okl] using this, rfl⟩)⟩
  have g1 : Ex G Gp := .of fun a o e => by
    by_cases z : L a
    · obtain ⟨_, _, h, _⟩ := hL a z; rw [h] at e; cases e
    · show (if L a then H a else G a) = _; rw [if_neg z]; exact e
  have g2 : Ex Gp H := ⟨fun a o e n => by
    have e : (if L a then H a else G a) = _ := e
    split at e
    · exact e
    · exact ok.gh.nt a o e n, fun a ps e => by
    have e : (if L a then H a else G a) = _ := e
    split at e
    · exact ⟨ps, e⟩
    · exact ok.gh.tb a ps e⟩
  refine ⟨Gp, ⟨.refl _, g2, .refl _, ⟨fun _ _ z => z, ok.nc.tb.mono (fun _ _ e => e) g1, ok.nc.tb.mono (fun _ _ e => e) g1⟩, fun i s hi => ?_, fun i j s t p hij hi hj o1 => ?_⟩, fun σ2 δ2 H' G' ok' => ?_⟩
  · rcases Nat.lt_or_ge i δ0.length with q | q
    · rw [List.getElem?_append_left (by simpa using q), List.getElem?_map] at hi
      cases e0 : δ0[i]? with
      | none => rw [e0] at hi; cases hi
      | some s0 =>
        rw [e0] at hi
        cases hi
        obtain ⟨o, e, k⟩ := ok.sl i s0 (by rw [List.getElem?_append_left q]; exact e0)
        refine ⟨o, e, ?_⟩
        cases s0 with
        | d x => obtain ⟨v, e1, r⟩ := k; exact ⟨v, e1, r.mono g1⟩
        | _ => trivial
    · rw [List.getElem?_append_right (by simpa using q), List.length_map, List.getElem?_map] at hi
      cases e0 : δ[i - δ0.length]? with
      | none => rw [e0] at hi; cases hi
      | some s0 =>
        rw [e0] at hi
        cases hi
        have hi2 : δ0.length + (i - δ0.length) = i := by omega
        have h3 := hat _ _ e0
        rw [hi2] at h3
        obtain ⟨o, e, k⟩ := ok.sl i _ h3
        refine ⟨o, e, ?_⟩
        have hLo : ∀ p, owned s0 = true → o = some (.ref p) → L p := fun p h1 h2 => ⟨i - δ0.length, s0, e0, h1, by rw [hi2, e, h2]⟩
        cases s0 with
        | un => trivial
        | ot _ _ _ => trivial
        | d x => obtain ⟨v, e1, r⟩ := k; exact ⟨v, e1, r.mono g1⟩
        | own xs =>
          obtain ⟨p, vs, rfl, k1, k2, k3, r⟩ := k
          exact ⟨_, rfl, .lst (show (if L p then H p else G p) = _ by rw [if_pos (hLo p rfl rfl)]; exact k3) (r.mono g1)⟩
        | okd xs =>
          obtain ⟨p, vs, rfl, k1, k2, k3, r⟩ := k
          exact ⟨_, rfl, .dK (show (if L p then H p else G p) = _ by rw [if_pos (hLo p rfl rfl)]; exact k3) (r.mono g1)⟩
        | oko xs => trivial
        | ob q C fs =>
          obtain ⟨p, dx, gs, rfl, hq, k1, k2, k3, k4, k5, k6, r⟩ := k
          exact ⟨_, rfl, .ins (show (if L p then H p else G p) = _ by rw [if_pos (hLo p rfl rfl)]; exact k5) (r.mono g1)⟩
  · exfalso
    have no : ∀ s ∈ δ0.map wkS ++ δ.map lendSO, owned s = false := fun s hs => by
      rcases List.mem_append.mp hs with z | z
      · obtain ⟨x, _, rfl⟩ := List.mem_map.mp z
        unfold wkS
        cases x <;> rfl
      · obtain ⟨x, _, rfl⟩ := List.mem_map.mp z
        cases x <;> rfl
    rw [no s (List.mem_of_getElem? hi)] at o1; cases o1
  · let G2 : Hp := fun a => if H a = none then G' a else G a
    have f1 : Ex G G2 := .of fun a o e => by
      show (if H a = none then G' a else G a) = _
      rw [if_neg (fun z => by rw [ok.gh.none z] at e; cases e)]; exact e
    have f2 : Ex G2 H' := ⟨fun a o e n => by
      have e : (if H a = none then G' a else G a) = _ := e
      split at e
      · exact ok'.gh.nt a o e n
      · exact (ok.gh.trans ok'.he).nt a o e n, fun a ps e => by
      have e : (if H a = none then G' a else G a) = _ := e
      split at e
      · exact ok'.gh.tb a ps e
      · exact (ok.gh.trans ok'.he).tb a ps e⟩
    have hG : ∀ a o, G' a = some o → ((∃ us, o = .lst us) → ll = true) → (∀ us, o ≠ .dK us) → (∀ C dx gs, C ∈ Cs → o ≠ .ins C dx gs) → ntb o = true → G2 a = some o := fun a o e n n2 n3 n4 => by
      show (if H a = none then G' a else G a) = _
      by_cases z : H a = none
      · rw [if_pos z]; exact e
      · rw [if_neg z]
        cases e2 : Gp a with
        | none => rw [ok'.nc a z e2] at e; cases e
        | some u =>
          have nu : ntb u = true := by
            cases hu : ntb u with
            | true => rfl
            | false =>
              cases u with
              | tbl ps => obtain ⟨_, z⟩ := ok'.ge.tb a ps e2; rw [e] at z; cases z; cases n4
              | _ => cases hu
          have e3 := ok'.ge.nt a u e2 nu
          rw [e] at e3; cases e3
          have e2 : (if L a then H a else G a) = _ := e2
          split at e2
          · rename_i q
            obtain ⟨u2, h, _, hu⟩ := hL a q
            rw [h] at e2; cases e2
            rcases hu with ⟨vs, rfl, hl⟩ | ⟨vs, rfl⟩ | ⟨C, dx, gs, hC, rfl⟩
            · rw [n ⟨vs, rfl⟩] at hl; cases hl
            · exact (n2 vs rfl).elim
            · exact (n3 C dx gs hC rfl).elim
          · exact e2
    refine ⟨G2, ⟨ok.ge.trans f1, f2, ok.he.trans ok'.he, ⟨fun b b1 b2 => ?_, ok.nc.t0, ok'.nc.tb.sub fun c q e => hG c _ e (fun ⟨us, z⟩ => by cases z) (fun us z => by cases z) (fun _ _ _ _ z => by cases z) rfl⟩, fun i s hi => ?_, ok.ne⟩, hG, fun p hp => if_pos hp⟩
    · show (if H b = none then G' b else G b) = _
      rw [if_neg (fun q => b1 (ok.he.none q))]; exact ok.nc b b1 b2
    · obtain ⟨o, e, k⟩ := ok.sl i s hi
      refine ⟨o, e, ?_⟩
      refine k.mono f1 fun p u q1 q2 q3 q4 => ⟨ok'.he.nt p u q3 q4, ?_⟩
      show (if H p = none then G' p else G p) = _
      rw [if_neg (by rw [q3]; exact fun z => nomatch z)]; exact q2
/-- what may leave -/
def rfoS (Cs : List Addr) (ll : Bool) : S → Bool | .d x => rfo Cs ll x | .own xs => rfo.rfoL Cs ll xs | .un => true | _ => false
section
variable {K : PySem.W.Frag} {δ : List S} {te : TE} {tt : TT} {s : S} {b : Bool} {Cs : List Addr} {ll : Bool} {c : Addr} {cf : List (Str × D)} {E : L2.St → XK}
theorem ev_lendO (h : EV K te (δ.map lendSO) s) (hd : δ.all (okl Cs ll) = true) (ls : rfoS Cs ll s = true) : EV K te δ s := by
  intro He Ge H τo τs σ hl ⟨G, ok⟩ Q q
  obtain ⟨Gp, ok1, back⟩ := lend_core (Cs := Cs) (ll := ll) ok hd
  refine h H Gp H τo (τs.map wkS) σ (by simpa using hl) ⟨Gp, ok1⟩ Q fun v H' ⟨G', ok'⟩ => ?_
  obtain ⟨G2, ok2, hG, hN⟩ := back _ _ H' G' ok'.pop
  have t := ok'.top
  refine q v H' ⟨G2, ok2.push ?_ ?_⟩
  · cases s with
    | un => trivial
    | ot _ _ _ => trivial
    | d x => obtain ⟨w, e, r⟩ := t; exact ⟨w, e, r.trimO hG ls⟩
    | own xs =>
      obtain ⟨p, vs, e, k1, k2, k3, r⟩ := t
      exact ⟨p, vs, e, ok.he.none k1, by rw [hN p k1]; exact k2, k3, r.trimO hG ls⟩
    | okd xs => cases ls
    | oko xs => cases ls
    | ob a C fs => cases ls
  · intro o1 j t' p e hj o2 es
    obtain ⟨o, e', k⟩ := ok.sl j t' hj
    rw [es] at e'; cases e'
    have hp : H p ≠ none := by
      cases t' with
      | un => cases o2
      | ot _ _ _ => cases o2
      | d x => cases o2
      | own xs => obtain ⟨p', vs, e2, _, _, k3, _⟩ := k; cases e2; rw [k3]; exact fun z => nomatch z
      | okd xs => obtain ⟨p', vs, e2, _, _, k3, _⟩ := k; cases e2; rw [k3]; exact fun z => nomatch z
      | oko xs => obtain ⟨p', vs, e2, _, _, k3⟩ := k; cases e2; rw [k3]; exact fun z => nomatch z
      | ob q C fs => obtain ⟨a, dx, gs, e2, _, _, _, _, _, k5, _⟩ := k; cases e2; rw [k5]; exact fun z => nomatch z
    cases s with
    | un => cases o1
    | ot _ _ _ => cases o1
    | d x => cases o1
    | own xs => obtain ⟨p', vs, e2, k1, _⟩ := t; rw [e] at e2; cases e2; exact hp k1
    | okd xs => cases ls
    | oko xs => cases ls
    | ob a C fs => cases ls
theorem eb_lendO (h : EB K tt (δ.map lendSO) b) (hd : δ.all (okl Cs ll) = true) : EB K tt δ b := by
  intro He Ge H τo τs σ hl ⟨G, ok⟩ Q q
  obtain ⟨Gp, ok1, back⟩ := lend_core (Cs := Cs) (ll := ll) ok hd
  refine h H Gp H τo (τs.map wkS) σ (by simpa using hl) ⟨Gp, ok1⟩ Q fun H' ⟨G', ok'⟩ => ?_
  obtain ⟨G2, ok2, _, _⟩ := back _ _ H' G' ok'
  exact q H' ⟨G2, ok2⟩
theorem ex_lendO (h : EX K E te (δ.map lendSO) c cf) (hd : δ.all (okl Cs ll) = true) (lc : rfo.rfoF Cs ll cf = true) : EX K E te δ c cf := by
  intro He Ge H τo τs σ hl ⟨G, ok⟩ k Q
  obtain ⟨Gp, ok1, back⟩ := lend_core (Cs := Cs) (ll := ll) ok hd
  refine h H Gp H τo (τs.map wkS) σ (by simpa using hl) ⟨Gp, ok1⟩ (fun cls d G' H' ok' x => ?_) Q
  obtain ⟨G2, ok2, hG, hN⟩ := back _ _ H' G' ok'
  obtain ⟨e1, e2⟩ := x
  refine k cls d G2 H' ok2 ⟨e1, ?_⟩
  rcases e2 with e2 | ⟨dd, gs, e2, e3, r, e4⟩
  · exact .inl e2
  · exact .inr ⟨dd, gs, e2, hG _ _ e3 (fun ⟨us, z⟩ => by cases z) (fun us z => by cases z) (fun _ _ _ _ z => by cases z) rfl, r.trimO hG lc, e4⟩
end
end Far
/-! Methods that change their object; expressions behind which slots are otherwise. -/
namespace Far
open PySem L2
section
variable {K : PySem.W.Frag} {He Ge H G : Hp} {σ : L2.St} {δ : List S}
/-- what a method promises that may change its object -/
def spM (K : PySem.W.Frag) (C : Addr) (R : List (Str × D) → List D → Out → List (Str × D) → Prop) : Sp := fun vs H Q E => ∃ (G : Hp) (x dx : Addr) (us : List V) (fs : List (Str × D)) (xs : List D) (out : Out) (fs2 : List (Str × D)), vs = .ref x :: us ∧ H dx = some (.own x) ∧ OKG K (hid H x dx) G H G [some (.ref x)] [.ob (some x) C fs] ∧ RpL K G xs us ∧ R fs xs out fs2 ∧
  (∀ v s G' H', out = .ret s → OKG K (hid H x dx) G H' G' [some v, some (.ref x)] [s, .ob (some x) C fs2] → Q v H') ∧
  (∀ c cf cls d G' H', out = .exc c cf → OKG K (hid H x dx) G H' G' [] [] → XOk K G' H' c cf cls d → E cls d H')
def SDefM (K : PySem.W.Frag) (E : WX) (x C : Addr) (t : TS) (δ : List S) (out : Out) (fs2 : List (Str × D)) : Prop := SD K E t δ (fun δ' => δ'[0]? = some (.ob (some x) C fs2) ∧ out = .ret (.d .non)) (fun s δ' => δ'[0]? = some (.ob (some x) C fs2) ∧ out = .ret s) NoS NoS (fun _ c fs => out = .exc c fs)
def slotsM (n : Nat) (x C : Addr) (fs : List (Str × D)) (xs : List D) : List S := .ob (some x) C fs :: slots (n - 1) xs
theorem OKG.pick0 {i : Nat} {s : S} {o : Option V} (h : OKG K He Ge H G σ δ) (hi : δ[i]? = some s) (e : σ[i]? = some o) : OKG K He Ge H G [o] [s] := by
  refine ⟨h.ge, h.gh, h.he, h.nc, fun j t q => ?_, fun j k t u p hjk hj hk => ?_⟩
  · cases j with
    | zero =>
      simp at q; subst q
      obtain ⟨o', e', k⟩ := h.sl i s hi
      rw [e] at e'; cases e'
      exact ⟨o, rfl, k⟩
    | succ j => simp at q
  · cases j with
    | zero => cases k with
      | zero => exact (hjk rfl).elim
      | succ k => simp at hk
    | succ j => simp at hj
theorem OKG.pick1 {i : Nat} {s s0 : S} {o o0 : Option V} (h : OKG K He Ge H G (o0 :: σ) (s0 :: δ)) (hi : δ[i]? = some s) (e : σ[i]? = some o) : OKG K He Ge H G [o0, o] [s0, s] := by
  have h1 := h.pick0 (i := i + 1) (s := s) (o := o) (by simpa using hi) (by simpa using e)
  refine h1.push h.top fun ho j t p e1 hj ho2 e2 => ?_
  cases j with
  | zero =>
    simp at hj e2; subst hj
    exact h.ne 0 (i + 1) s0 s p (by omega) rfl (by simpa using hi) ho ho2 (by rw [e1]; rfl) (by rw [← e2]; simpa using e)
  | succ j => simp at hj
theorem OKG.nil (h : OKG K He Ge H G σ δ) : OKG K He Ge H G [] [] := ⟨h.ge, h.gh, h.he, h.nc, fun j t q => by simp at q, fun j k t u p _ hj => by simp at hj⟩
theorem hid_eq {H : Hp} {x dx b : Addr} (h1 : b ≠ x) (h2 : b ≠ dx) : hid H x dx b = H b := by unfold hid; rw [if_neg (by rintro (z | z) <;> contradiction)]
theorem hid_tab2 {K : PySem.W.Frag} {H G : Hp} {x dx : Addr} (h : TabOk K H G) (n1 : ∀ ps, H x ≠ some (.tbl ps)) (n2 : ∀ ps, H dx ≠ some (.tbl ps)) : TabOk K (hid H x dx) G := h.mono (fun P ps e => by
  rw [hid_eq (fun z => n1 ps (by rw [← z]; exact e)) (fun z => n2 ps (by rw [← z]; exact e))]; exact e) (.refl G)
theorem hid_put {A H : Hp} {x dx : Addr} (e : Ex A H) (n1 : A x = none) (n2 : A dx = none) : Ex A (hid H x dx) := ⟨fun a o h k => by
  rw [hid_eq (ne_of_none h n1) (ne_of_none h n2)]; exact e.nt a o h k, fun a ps h => by
  rw [hid_eq (ne_of_none h n1) (ne_of_none h n2)]; exact e.tb a ps h⟩
theorem hid_x {H : Hp} {x dx : Addr} : hid H x dx x = none := by unfold hid; simp
theorem hid_d {H : Hp} {x dx : Addr} : hid H x dx dx = none := by unfold hid; simp
theorem meth_run {C : Addr} {R : List (Str × D) → List D → Out → List (Str × D) → Prop} {N : List Str} {vs : List V} {H : Hp} {Q : VK} {E : XK} {t : TS} (hN : 0 < N.length) (h : spM K C R vs H Q E) (k : ∀ x fs xs out fs2, R fs xs out fs2 → SDefM K (fun cls d _ H => E cls d H) x C t (slotsM N.length x C fs xs) out fs2) : t { nx := fun _ H' => Q .non H', rt := Q } (L2.start N vs) H := by
  obtain ⟨G, x, dx, us, fs, xs, out, fs2, rfl, hdx, ok0, r, hr, q1, q2⟩ := h
  have est : L2.start N (.ref x :: us) = some (.ref x) :: (us.map some ++ List.replicate (N.length - 1 - us.length) none) := by
    unfold L2.start
    rw [List.map_cons, List.cons_append, List.length_cons, Nat.sub_add_eq, Nat.sub_right_comm]
  rw [est]
  obtain ⟨o0, eo0, a, dx2, gs, e0, hq, h1, h2, h3, h4, h5, h6, rf⟩ := ok0.sl 0 _ rfl
  simp at eo0; subst eo0
  cases e0
  have ed : dx2 = dx := by
    by_cases z : dx2 = dx
    · exact z
    · by_cases z2 : dx2 = x
      · subst z2; rw [h5] at h6; cases h6
      · rw [hid_eq z2 z] at h3; rw [h3] at h6; cases h6
  subst ed
  have e : Ex G (hid H x dx2) := hid_put ok0.gh h2 h4
  have hs := ok_startH (n := N.length - 1) e hid_ex ok0.nc.t0 ok0.nc.tb r
  have ok : OKG K (hid H x dx2) G H G (some (.ref x) :: (us.map some ++ List.replicate (N.length - 1 - us.length) none)) (slotsM N.length x C fs xs) := by
    refine hs.push (s := .ob (some x) C fs) ⟨x, dx2, gs, rfl, hq, h1, h2, h3, h4, h5, h6, rf⟩ fun _ j s p _ hj ho _ => ?_
    have : ∀ s ∈ slots (N.length - 1) xs, owned s = false := fun s hs => by
      rcases List.mem_append.mp hs with z | z
      · obtain ⟨x, _, rfl⟩ := List.mem_map.mp z; rfl
      · rw [List.eq_of_mem_replicate z]; rfl
    rw [this s (List.mem_of_getElem? hj)] at ho; cases ho
  have at0 : ∀ {H' G' : Hp} {σ' : L2.St} {δ' : List S}, OKG K (hid H x dx2) G H' G' σ' δ' → δ'[0]? = some (.ob (some x) C fs2) → σ'[0]? = some (some (.ref x)) := fun {H' G' σ' δ'} ok' e0 => by
    obtain ⟨o, eo, a, _, _, rfl, hq, _⟩ := ok'.sl 0 _ e0
    cases hq x rfl; exact eo
  refine k x fs xs out fs2 hr (hid H x dx2) G H _ _ ⟨G, ok⟩ (fun δ' σ' H' ⟨G', ok'⟩ ⟨e0, eo⟩ => ?_) (fun v s σ' δ' H' ⟨G', ok', _⟩ ⟨e0, eo⟩ => ?_) (fun _ _ _ _ z => z.elim) (fun _ _ _ _ z => z.elim) fun c fs cls d G' σ' δ' H' ok x z => q2 c fs cls d G' H' z ok.nil x
  · exact q1 _ _ G' H' eo ((ok'.pick0 e0 (at0 ok' e0)).pushD .non)
  · exact q1 v s G' H' eo (ok'.pick1 e0 (at0 ok'.pop e0))
/-- the caller behind such a call -/
theorem OKG.others {G2 H' : Hp} {i : Nat} {q : Option Addr} {C x dx : Addr} {fs : List (Str × D)} (ok : OKG K He Ge H G σ δ) (hi : δ[i]? = some (.ob q C fs)) (hx : σ[i]? = some (some (.ref x))) (hdx : H dx = some (.own x)) (g : Ex G G2) (he : Ex (hid H x dx) H') (nc : Nc K (hid H x dx) G H' G2) :
    ∀ (j : Nat) (s : S), j ≠ i → δ[j]? = some s → ∃ o, σ[j]? = some o ∧ SlotOk K He G2 H' s o ∧ (owned s = true → ∀ p, o = some (.ref p) → hid H x dx p ≠ none) := by
  obtain ⟨o0, eo0, a, dx2, gs, e0, hq, h1, h2, h3, h4, h5, h6, rf⟩ := ok.sl i _ hi
  rw [hx] at eo0; cases eo0; cases e0
  intro j s hj hs
  obtain ⟨o, eo, k⟩ := ok.sl j s hs
  refine ⟨o, eo, ?_⟩
  have kp : ∀ p u, H p = some u → p ≠ x → p ≠ dx → G p = none → ntb u = true → H' p = some u ∧ G2 p = none ∧ hid H x dx p ≠ none := fun p u e n1 n2 hg n => by
    have : hid H x dx p = some u := by rw [hid_eq n1 n2]; exact e
    exact ⟨he.nt _ _ this n, nc p (by rw [this]; exact fun z => nomatch z) hg, by rw [this]; exact fun z => nomatch z⟩
  have nx : ∀ p, owned s = true → o = some (.ref p) → p ≠ x := fun p ho e z => by
    subst z
    exact ok.ne j i s _ p hj hs hi ho rfl (by rw [eo, e]) hx
  cases s with
  | un => exact ⟨trivial, fun z => nomatch z⟩
  | ot _ _ _ => exact ⟨trivial, fun z => nomatch z⟩
  | d y => obtain ⟨v, e1, r⟩ := k; exact ⟨⟨v, e1, r.mono g⟩, fun z => nomatch z⟩
  | own xs =>
    obtain ⟨p, vs, rfl, k1, k2, k3, r⟩ := k
    obtain ⟨u1, u2, u3⟩ := kp p _ k3 (nx p rfl rfl) (fun z => by subst z; rw [hdx] at k3; cases k3) k2 rfl
    exact ⟨⟨p, vs, rfl, k1, u2, u1, r.mono g⟩, fun _ p' e => by cases e; exact u3⟩
  | okd xs =>
    obtain ⟨p, vs, rfl, k1, k2, k3, r⟩ := k
    obtain ⟨u1, u2, u3⟩ := kp p _ k3 (nx p rfl rfl) (fun z => by subst z; rw [hdx] at k3; cases k3) k2 rfl
    exact ⟨⟨p, vs, rfl, k1, u2, u1, r.mono g⟩, fun _ p' e => by cases e; exact u3⟩
  | oko xs =>
    obtain ⟨p, vs, rfl, k1, k2, k3⟩ := k
    obtain ⟨u1, u2, u3⟩ := kp p _ k3 (nx p rfl rfl) (fun z => by subst z; rw [hdx] at k3; cases k3) k2 rfl
    exact ⟨⟨p, vs, rfl, k1, u2, u1⟩, fun _ p' e => by cases e; exact u3⟩
  | ob q2 C2 fs2 =>
    obtain ⟨p, dx3, gs2, rfl, kq, k1, k2, k3, k4, k5, k6, r⟩ := k
    have n1 := nx p rfl rfl
    obtain ⟨u1, u2, u3⟩ := kp p _ k5 n1 (fun z => by subst z; rw [hdx] at k5; cases k5) k2 rfl
    obtain ⟨w1, w2, w3⟩ := kp dx3 _ k6 (fun z => by subst z; rw [h5] at k6; cases k6) (fun z => by subst z; rw [hdx] at k6; cases k6; exact n1 rfl) k4 rfl
    exact ⟨⟨p, dx3, gs2, rfl, kq, k1, u2, k3, w2, u1, w1, r.mono g⟩, fun _ p' e => by cases e; exact u3⟩
theorem OKG.back {G2 H' : Hp} {i : Nat} {q : Option Addr} {C x dx : Addr} {fs fs2 : List (Str × D)} {s : S} {v : V} (ok : OKG K He Ge H G σ δ) (hi : δ[i]? = some (.ob q C fs)) (hx : σ[i]? = some (some (.ref x))) (hdx : H dx = some (.own x)) (hdn : He dx = none)
    (ok' : OKG K (hid H x dx) G H' G2 [some v, some (.ref x)] [s, .ob (some x) C fs2]) : OKG K He Ge H' G2 (some v :: σ) (s :: δ.set i (.ob q C fs2)) := by
  obtain ⟨o0, eo0, a, dx2, gs, e0, hq, h1, h2, h3, h4, h5, h6, rf⟩ := ok.sl i _ hi
  rw [hx] at eo0; cases eo0; cases e0
  have ot := ok.others hi hx hdx ok'.ge ok'.he ok'.nc
  have hlt : i < δ.length := (List.getElem?_eq_some_iff.mp hi).1
  have hh : ∀ b, He b ≠ none → hid H x dx b ≠ none := fun b hb => by
    have n1 : b ≠ x := fun z => by subst z; exact hb h1
    have n2 : b ≠ dx := fun z => by subst z; exact hb hdn
    rw [hid_eq n1 n2]
    intro z; exact hb (ok.he.none z)
  have hne : ∀ p, hid H x dx p = none → He p = none := fun p hp => by
    cases e : He p with
    | none => rfl
    | some u => exact (hh p (by rw [e]; exact fun z => nomatch z) hp).elim
  have he2 : Ex He H' := (hid_put ok.he h1 hdn).trans ok'.he
  have okb : OKG K He Ge H' G2 σ (δ.set i (.ob q C fs2)) := by
    refine ⟨ok.ge.trans ok'.ge, ok'.gh, he2, ⟨fun b b1 b2 => ok'.nc b (hh b b1) (ok.nc b b1 b2), ok.nc.t0, ok'.nc.tb⟩, fun j t hj => ?_, fun j k s' t p hjk hj hk o1 o2 e1 e2 => ?_⟩
    · by_cases z : i = j
      · subst z
        rw [List.getElem?_set_self hlt] at hj; cases hj
        obtain ⟨o1, eo1, a1, dx3, gs3, e1, kq, k1, k2, k3, k4, k5, k6, r⟩ := ok'.sl 1 _ rfl
        simp at eo1; subst eo1; cases e1
        exact ⟨_, hx, x, dx3, gs3, rfl, hq, h1, k2, hne _ k3, k4, k5, k6, r⟩
      · rw [List.getElem?_set_ne z] at hj
        obtain ⟨o, eo, k, _⟩ := ot j t (Ne.symm z) hj
        exact ⟨o, eo, k⟩
    · have un : ∀ (m : Nat) (s : S), (δ.set i (.ob q C fs2))[m]? = some s → owned s = true → ∃ s2, δ[m]? = some s2 ∧ owned s2 = true := fun m s q q2 => by
        by_cases z : i = m
        · subst z; exact ⟨_, hi, rfl⟩
        · rw [List.getElem?_set_ne z] at q; exact ⟨s, q, q2⟩
      obtain ⟨s2, q1, q2⟩ := un j _ hj o1
      obtain ⟨t2, q3, q4⟩ := un k _ hk o2
      exact ok.ne j k s2 t2 p hjk q1 q3 q2 q4 e1 e2
  refine okb.push ?_ fun ho j t p e hj ho2 e2 => ?_
  · have t := ok'.top
    cases s with
    | un => trivial
    | ot _ _ _ => trivial
    | d y => exact t
    | own xs => obtain ⟨p, vs, e, k1, k2⟩ := t; exact ⟨p, vs, e, hne _ k1, k2⟩
    | okd xs => obtain ⟨p, vs, e, k1, k2⟩ := t; exact ⟨p, vs, e, hne _ k1, k2⟩
    | oko xs => obtain ⟨p, vs, e, k1, k2⟩ := t; exact ⟨p, vs, e, hne _ k1, k2⟩
    | ob q2 C2 fs3 => obtain ⟨p, dx3, gs2, e, kq, k1, k2, k3, k4⟩ := t; exact ⟨p, dx3, gs2, e, kq, hne _ k1, k2, hne _ k3, k4⟩
  · by_cases z : i = j
    · subst z
      rw [List.getElem?_set_self hlt] at hj; cases hj
      rw [hx] at e2; cases e2
      exact ok'.ne 0 1 s _ x (by decide) rfl rfl ho rfl (by rw [e]; rfl) rfl
    · rw [List.getElem?_set_ne z] at hj
      obtain ⟨o, eo, _, kn⟩ := ot j t (Ne.symm z) hj
      rw [e2] at eo; cases eo
      have hp := kn ho2 p rfl
      have tp := ok'.top
      cases s with
      | un => cases ho
      | ot _ _ _ => cases ho
      | d y => cases ho
      | own xs => obtain ⟨p', vs, e', k1, _⟩ := tp; rw [e] at e'; cases e'; exact hp k1
      | okd xs => obtain ⟨p', vs, e', k1, _⟩ := tp; rw [e] at e'; cases e'; exact hp k1
      | oko xs => obtain ⟨p', vs, e', k1, _⟩ := tp; rw [e] at e'; cases e'; exact hp k1
      | ob q2 C2 fs3 => obtain ⟨p', dx3, gs2, e', kq, k1, _⟩ := tp; rw [e] at e'; cases e'; exact hp k1
theorem OKG.backX {G2 H' : Hp} {i : Nat} {q : Option Addr} {C x dx : Addr} {fs : List (Str × D)} (ok : OKG K He Ge H G σ δ) (hi : δ[i]? = some (.ob q C fs)) (hx : σ[i]? = some (some (.ref x))) (hdx : H dx = some (.own x)) (hdn : He dx = none)
    (ok' : OKG K (hid H x dx) G H' G2 [] []) : OKG K He Ge H' G2 σ (δ.set i .un) := by
  obtain ⟨o0, eo0, a, dx2, gs, e0, hq, h1, h2, h3, h4, h5, h6, rf⟩ := ok.sl i _ hi
  rw [hx] at eo0; cases eo0; cases e0
  have ot := ok.others hi hx hdx ok'.ge ok'.he ok'.nc
  have hlt : i < δ.length := (List.getElem?_eq_some_iff.mp hi).1
  have hh : ∀ b, He b ≠ none → hid H x dx b ≠ none := fun b hb => by
    have n1 : b ≠ x := fun z => by subst z; exact hb h1
    have n2 : b ≠ dx := fun z => by subst z; exact hb hdn
    rw [hid_eq n1 n2]
    intro z; exact hb (ok.he.none z)
  have he2 : Ex He H' := (hid_put ok.he h1 hdn).trans ok'.he
  refine ⟨ok.ge.trans ok'.ge, ok'.gh, he2, ⟨fun b b1 b2 => ok'.nc b (hh b b1) (ok.nc b b1 b2), ok.nc.t0, ok'.nc.tb⟩, fun j t hj => ?_, fun j k s' t p hjk hj hk o1 o2 e1 e2 => ?_⟩
  · by_cases z : i = j
    · subst z
      rw [List.getElem?_set_self hlt] at hj; cases hj
      exact ⟨_, hx, trivial⟩
    · rw [List.getElem?_set_ne z] at hj
      obtain ⟨o, eo, k, _⟩ := ot j t (Ne.symm z) hj
      exact ⟨o, eo, k⟩
  · have un : ∀ (m : Nat) (s : S), (δ.set i .un)[m]? = some s → owned s = true → δ[m]? = some s := fun m s q q2 => by
      by_cases z : i = m
      · subst z; rw [List.getElem?_set_self hlt] at q; cases q; cases q2
      · rw [List.getElem?_set_ne z] at q; exact q
    exact ok.ne j k s' t p hjk (un j _ hj o1) (un k _ hk o2) o1 o2 e1 e2
end
/-! ### expressions behind which slots are otherwise -/
def EVX (K : PySem.W.Frag) (te : TE) (δ : List S) (s : S) (δ' : List S) : Prop := ∀ (He Ge H : Hp) (τo : L2.St) (τs : List S) (σ : L2.St), τo.length = τs.length → OK K He Ge H (τo ++ σ) (τs ++ δ) →
  ∀ Q : VK, (∀ v H', OK K He Ge H' (some v :: (τo ++ σ)) (s :: (τs ++ δ')) → Q v H') → te σ H Q
def EBX (K : PySem.W.Frag) (tt : TT) (δ : List S) (b : Bool) (δ' : List S) : Prop := ∀ (He Ge H : Hp) (τo : L2.St) (τs : List S) (σ : L2.St), τo.length = τs.length → OK K He Ge H (τo ++ σ) (τs ++ δ) →
  ∀ Q : Bool → Hp → Prop, (∀ H', OK K He Ge H' (τo ++ σ) (τs ++ δ') → Q b H') → tt σ H Q
def EAX (K : PySem.W.Frag) (ta : TA) (δ : List S) (xs : List D) (δ' : List S) : Prop := ∀ (He Ge H : Hp) (τo : L2.St) (τs : List S) (σ : L2.St), τo.length = τs.length → OK K He Ge H (τo ++ σ) (τs ++ δ) →
  ∀ Q : List V → Hp → Prop, (∀ vs H' G', OKG K He Ge H' G' (τo ++ σ) (τs ++ δ') → RpL K G' xs vs → Q vs H') → ta σ H Q
/-- .. and those that let out -/
def EXX (K : PySem.W.Frag) (E : L2.St → XK) (te : TE) (δ δ' : List S) (c : Addr) (cf : List (Str × D)) : Prop := ∀ (He Ge H : Hp) (τo : L2.St) (τs : List S) (σ : L2.St), τo.length = τs.length → OK K He Ge H (τo ++ σ) (τs ++ δ) →
  (∀ cls d G' H', OKG K He Ge H' G' (τo ++ σ) (τs ++ δ') → XOk K G' H' c cf cls d → E σ cls d H') → ∀ Q : VK, te σ H Q
def EXAX (K : PySem.W.Frag) (E : L2.St → XK) (ta : TA) (δ δ' : List S) (c : Addr) (cf : List (Str × D)) : Prop := ∀ (He Ge H : Hp) (τo : L2.St) (τs : List S) (σ : L2.St), τo.length = τs.length → OK K He Ge H (τo ++ σ) (τs ++ δ) →
  (∀ cls d G' H', OKG K He Ge H' G' (τo ++ σ) (τs ++ δ') → XOk K G' H' c cf cls d → E σ cls d H') → ∀ Q : List V → Hp → Prop, ta σ H Q
section
variable {K : PySem.W.Frag} {δ δ1 δ2 : List S} {te ta tb : TE} {tt tu : TT} {tr : TA} {x y z : D} {s : S} {xs : List D} {fs fs2 : List (Str × D)} {C : Addr} {E : L2.St → XK} {c : Addr} {cf : List (Str × D)} {W : WX}
theorem evx_of (h : EV K te δ s) : EVX K te δ s δ := h
theorem eax_of (h : EA K tr δ xs) : EAX K tr δ xs δ := h
theorem ebx_of {b : Bool} (h : EB K tt δ b) : EBX K tt δ b δ := h
theorem exx_of (h : EX K E te δ c cf) : EXX K E te δ δ c cf := h
theorem set_app {τs : List S} {i : Nat} {u : S} : (τs ++ δ).set (τs.length + i) u = τs ++ δ.set i u := by
  rw [List.set_append_right _ _ (Nat.le_add_right _ _), Nat.add_sub_cancel_left]
theorem own_dict {He Ge H G : Hp} {σ : L2.St} {i : Nat} {q : Option Addr} (ok : OKG K He Ge H G σ δ) (hi : δ[i]? = some (.ob q C fs)) : ∃ x dx gs, σ[i]? = some (some (.ref x)) ∧ H x = some (.ins C dx gs) ∧ H dx = some (.own x) ∧ He dx = none ∧ RpF K G fs gs ∧ OKG K (hid H x dx) G H G [some (.ref x)] [.ob (some x) C fs] := by
  obtain ⟨o, eo, x, dx, gs, rfl, hq, h1, h2, h3, h4, h5, h6, rf⟩ := ok.sl i _ hi
  refine ⟨x, dx, gs, eo, h5, h6, h3, rf, ⟨.refl _, ok.gh, hid_ex, ⟨fun _ _ z => z, hid_tab2 ok.nc.tb (fun ps z => by rw [h5] at z; cases z) (fun ps z => by rw [h6] at z; cases z), ok.nc.tb⟩, fun j t hj => ?_, fun j k t u p hjk hj hk => ?_⟩⟩
  · cases j with
    | zero =>
      simp at hj; subst hj
      exact ⟨_, rfl, x, dx, gs, rfl, fun _ z => Option.some.inj z, hid_x, h2, hid_d, h4, h5, h6, rf⟩
    | succ j => simp at hj
  · cases j with
    | zero => cases k with
      | zero => exact (hjk rfl).elim
      | succ k => simp at hk
    | succ j => simp at hj
theorem evx_meth {R : List (Str × D) → List D → Out → List (Str × D) → Prop} {i : Nat} {q : Option Addr} {m : Str} (hi : δ[i]? = some (.ob q C fs)) (hm : fs.lookup m = none) (h : EA K tr δ xs) (hr : R fs xs (.ret s) fs2) : EVX K (tMethS C m (spM K C R) E (tVar i) tr) δ s (δ.set i (.ob q C fs2)) := by
  intro He Ge H τo τs σ hl ⟨G, ok⟩ Q k
  have hat : (τs ++ δ)[τs.length + i]? = some (.ob q C fs) := by rw [List.getElem?_append_right (Nat.le_add_right _ _), Nat.add_sub_cancel_left]; exact hi
  have hσ : ∀ o, (τo ++ σ)[τs.length + i]? = some o → σ[i]? = some o := fun o e => by rw [List.getElem?_append_right (by omega), ← hl, Nat.add_sub_cancel_left] at e; exact e
  obtain ⟨x0, dx0, gs0, e0, e1, e2, e3, rf0, _⟩ := own_dict ok hat
  refine ⟨_, hσ _ e0, x0, dx0, gs0, rfl, e1, rf0.nolook hm, ?_⟩
  refine h He Ge H τo τs σ hl ⟨G, ok⟩ _ fun vs H1 G1 ok1 r1 => ?_
  obtain ⟨x, dx, gs, f0, f1, f2, f3, rf, okc⟩ := own_dict ok1 hat
  have : x0 = x := by
    have q1 := hσ _ e0
    have q2 := hσ _ f0
    rw [q1] at q2; cases q2; rfl
  subst this
  refine ⟨G1, x0, dx, vs, fs, xs, .ret s, fs2, rfl, f2, okc, r1, hr, fun v s' G' H' e ok' => ?_, fun c cf cls d G' H' e => nomatch e⟩
  cases e
  have := ok1.back hat f0 f2 f3 ok'
  rw [set_app] at this
  exact k v H' ⟨G', this⟩
theorem exx_meth {R : List (Str × D) → List D → Out → List (Str × D) → Prop} {i : Nat} {q : Option Addr} {m : Str} (hi : δ[i]? = some (.ob q C fs)) (hm : fs.lookup m = none) (h : EA K tr δ xs) (hr : R fs xs (.exc c cf) fs2) : EXX K E (tMethS C m (spM K C R) E (tVar i) tr) δ (δ.set i .un) c cf := by
  intro He Ge H τo τs σ hl ⟨G, ok⟩ k Q
  have hat : (τs ++ δ)[τs.length + i]? = some (.ob q C fs) := by rw [List.getElem?_append_right (Nat.le_add_right _ _), Nat.add_sub_cancel_left]; exact hi
  have hσ : ∀ o, (τo ++ σ)[τs.length + i]? = some o → σ[i]? = some o := fun o e => by rw [List.getElem?_append_right (by omega), ← hl, Nat.add_sub_cancel_left] at e; exact e
  obtain ⟨x0, dx0, gs0, e0, e1, e2, e3, rf0, _⟩ := own_dict ok hat
  refine ⟨_, hσ _ e0, x0, dx0, gs0, rfl, e1, rf0.nolook hm, ?_⟩
  refine h He Ge H τo τs σ hl ⟨G, ok⟩ _ fun vs H1 G1 ok1 r1 => ?_
  obtain ⟨x, dx, gs, f0, f1, f2, f3, rf, okc⟩ := own_dict ok1 hat
  have : x0 = x := by
    have q1 := hσ _ e0
    have q2 := hσ _ f0
    rw [q1] at q2; cases q2; rfl
  subst this
  refine ⟨G1, x0, dx, vs, fs, xs, .exc c cf, fs2, rfl, f2, okc, r1, hr, fun v s' G' H' e => (nomatch e), fun c' cf' cls d G' H' e ok' xo => ?_⟩
  cases e
  have := ok1.backX hat f0 f2 f3 ok'
  rw [set_app] at this
  exact k cls d G' H' this xo
/-- an object of one's own is made -/
theorem ev_makeO {R : List (Str × D) → List D → Out → List (Str × D) → Prop} (h : EA K tr δ xs) (hr : R [] xs (.ret (.d .non)) fs2) : EV K (tMakeS C (spM K C R) E tr) δ (.ob none C fs2) := by
  intro He Ge H τo τs σ hl ok Q q
  refine h He Ge H τo τs σ hl ok _ fun vs H1 G ok1 r1 => ?_
  intro x dx hx hdx ne
  have hh := hid_new (o1 := .own x) (o2 := .ins C dx []) hx hdx
  have e1 : upd (upd H1 dx (.own x)) x (.ins C dx []) x = some (.ins C dx []) := upd_same
  have e2 : upd (upd H1 dx (.own x)) x (.ins C dx []) dx = some (.own x) := by rw [upd_ne ne, upd_same]
  refine ⟨G, x, dx, vs, [], xs, _, fs2, rfl, e2, ⟨.refl _, ok1.gh.trans ((Ex.new hdx).trans (.new (by rw [upd_ne (Ne.symm ne)]; exact hx))), hid_ex, ⟨fun _ _ z => z, by rw [hh]; exact ok1.nc.tb, (ok1.nc.tb.new hdx (.refl G)).new (by rw [upd_ne (Ne.symm ne)]; exact hx) (.refl G)⟩, fun j t hj => ?_, fun j k t u p hjk hj hk => ?_⟩, r1, hr, fun v s G' H' e ok' => ?_, fun c fs cls d G' H' e => (nomatch e)⟩
  · cases j with
    | zero =>
      simp at hj; subst hj
      exact ⟨_, rfl, x, dx, [], rfl, fun _ z => Option.some.inj z, hid_x, ok1.gh.none hx, hid_d, ok1.gh.none hdx, e1, e2, .nil⟩
    | succ j => simp at hj
  · cases j with
    | zero => cases k with
      | zero => exact (hjk rfl).elim
      | succ k => simp at hk
    | succ j => simp at hj
  · cases e
    rw [hh] at ok'
    obtain ⟨v', e0, r0⟩ := ok'.top
    cases e0
    cases r0
    refine ⟨rfl, q _ H' ⟨G', ?_⟩⟩
    have okg := ok1.grow ok'.he ok'.ge ok'.gh ok'.nc
    obtain ⟨a, dx3, gs3, e1', kq, k1, k2, k3, k4, k5, k6, r⟩ := ok'.pop.top
    cases e1'
    refine okg.push (s := .ob none C fs2) ⟨x, dx3, gs3, rfl, (fun _ z => nomatch z), ok1.he.none hx, k2, ok1.he.none k3, k4, k5, k6, r⟩ fun _ j t p e hj ho eσ => ?_
    cases e
    obtain ⟨o, eo, k⟩ := ok1.sl j t hj
    rw [eσ] at eo; cases eo
    cases t with
    | un => cases ho
    | ot _ _ _ => cases ho
    | d y => cases ho
    | own ys => obtain ⟨p', vs', e, _, _, h3, _⟩ := k; cases e; rw [hx] at h3; cases h3
    | okd ys => obtain ⟨p', vs', e, _, _, h3, _⟩ := k; cases e; rw [hx] at h3; cases h3
    | oko ys => obtain ⟨p', vs', e, _, _, h3⟩ := k; cases e; rw [hx] at h3; cases h3
    | ob q C fs => obtain ⟨a, dx, gs, e, _, _, _, _, _, h5, _⟩ := k; cases e; rw [hx] at h5; cases h5
end
end Far
/-! Objects of one's own as functions: lent, changed by their methods. -/
namespace Far
open PySem L2
section
variable {K : PySem.W.Frag} {δ δ1 δ2 : List S} {te ta tb : TE} {tt tu : TT} {tr : TA} {x y z : D} {s : S} {xs : List D} {fs fs2 : List (Str × D)} {C : Addr} {E : L2.St → XK} {c : Addr} {cf : List (Str × D)} {W : WX} {b b2 : Bool}
theorem evx_toD (h : EVX K te δ s δ1) (e : toD s = .ok x) : EVX K te δ (.d x) δ1 := by
  intro He Ge H τo τs σ hl ok Q q
  refine h He Ge H τo τs σ hl ok _ fun v H' ok' => ?_
  cases s with
  | d y => cases e; exact q v H' ok'
  | own ys => cases e; obtain ⟨G', ok'⟩ := ok'; obtain ⟨G2, ok2⟩ := ok'.freeze; exact q v H' ⟨G2, ok2⟩
  | okd ys => cases e; obtain ⟨G', ok'⟩ := ok'; obtain ⟨G2, ok2⟩ := ok'.freezeK; exact q v H' ⟨G2, ok2⟩
  | oko ys => cases e; obtain ⟨G', ok'⟩ := ok'; obtain ⟨G2, ok2⟩ := ok'.freezeO; exact q v H' ⟨G2, ok2⟩
  | _ => cases e
theorem eax_cons (ha : EVX K ta δ (.d x) δ1) (hr : EAX K tr δ1 xs δ2) : EAX K (tCons ta tr) δ (x :: xs) δ2 := by
  intro He Ge H τo τs σ hl ok Q q
  refine ha He Ge H τo τs σ hl ok _ fun v H1 ok1 => ?_
  refine hr He Ge H1 (some v :: τo) (.d x :: τs) σ (by simp [hl]) ok1 _ fun vs H2 G2 ok2 r2 => ?_
  obtain ⟨_, e1, r1⟩ := ok2.top
  cases e1
  exact q (v :: vs) H2 G2 ok2.pop (.cons r1 r2)
theorem evx_call {R : List D → Out → Prop} {E : XK} (h : EAX K tr δ xs δ1) (hr : R xs (.ret s)) : EVX K (tCall (spD K R) [] E tr) δ s δ1 := by
  intro He Ge H τo τs σ hl ok Q q
  refine h He Ge H τo τs σ hl ok _ fun vs H1 G1 ok1 r1 => ?_
  rw [List.append_nil]
  exact sp_ret ok1 r1 hr q
theorem evx_cb {r : List V → Hp → VK → Prop} (ha : EAX K tr δ xs δ1) (hr : RVN K r xs s) : EVX K (tCB r tr) δ s δ1 := by
  intro He Ge H τo τs σ hl ok Q q
  refine ha He Ge H τo τs σ hl ok _ fun vs H1 G1 ok1 r1 => ?_
  exact hr He Ge H1 G1 _ _ vs ok1 r1 Q q
theorem evx_op {r : R2} (ha : EVX K ta δ (.d x) δ1) (hb : EVX K tb δ1 (.d y) δ2) (hr : RV2 K r x y s) : EVX K (tOp r ta tb) δ s δ2 := by
  intro He Ge H τo τs σ hl ok Q q
  refine ha He Ge H τo τs σ hl ok _ fun v H1 ok1 => ?_
  refine hb He Ge H1 (some v :: τo) (.d x :: τs) σ (by simp [hl]) ok1 _ fun u H2 ok2 => ?_
  obtain ⟨G, ok2⟩ := ok2
  obtain ⟨_, e1, r1⟩ := ok2.top
  obtain ⟨_, e2, r2⟩ := ok2.pop.top
  cases e1; cases e2
  exact hr He Ge H2 G _ _ v u ok2.pop.pop r2 r1 Q q
theorem ebx_tru (h : EVX K te δ (.d x) δ1) (t : TrD x b) : EBX K (tTru K te) δ b δ1 := by
  intro He Ge H τo τs σ hl ok Q q
  refine h He Ge H τo τs σ hl ok _ fun v H1 ⟨G, ok1⟩ => ?_
  obtain ⟨_, e1, r1⟩ := ok1.top
  cases e1
  exact ⟨b, t.to ok1.gh r1, q H1 ⟨G, ok1.pop⟩⟩
theorem ebx_not (h1 : EBX K tt δ b δ1) : EBX K (tNot tt) δ (!b) δ1 := by
  intro He Ge H τo τs σ hl ok Q q
  exact h1 He Ge H τo τs σ hl ok _ fun H1 ok1 => q H1 ok1
theorem ebx_orT (h1 : EBX K tt δ true δ1) : EBX K (tOr tt tu) δ true δ1 := by
  intro He Ge H τo τs σ hl ok Q q
  exact h1 He Ge H τo τs σ hl ok _ fun H1 ok1 => iteT (q H1 ok1)
theorem ebx_orF (h1 : EBX K tt δ false δ1) (h2 : EBX K tu δ1 b δ2) : EBX K (tOr tt tu) δ b δ2 := by
  intro He Ge H τo τs σ hl ok Q q
  exact h1 He Ge H τo τs σ hl ok _ fun H1 ok1 => iteF (h2 He Ge H1 τo τs σ hl ok1 Q q)
theorem ebx_andF (h1 : EBX K tt δ false δ1) : EBX K (tAnd tt tu) δ false δ1 := by
  intro He Ge H τo τs σ hl ok Q q
  exact h1 He Ge H τo τs σ hl ok _ fun H1 ok1 => iteF (q H1 ok1)
theorem ebx_andT (h1 : EBX K tt δ true δ1) (h2 : EBX K tu δ1 b δ2) : EBX K (tAnd tt tu) δ b δ2 := by
  intro He Ge H τo τs σ hl ok Q q
  exact h1 He Ge H τo τs σ hl ok _ fun H1 ok1 => iteT (h2 He Ge H1 τo τs σ hl ok1 Q q)
theorem ebx_test (h : EVX K te δ (.d (.bl b)) δ1) : EBX K (tTest te) δ b δ1 := by
  intro He Ge H τo τs σ hl ok Q q
  refine h He Ge H τo τs σ hl ok _ fun v H1 ⟨G, ok1⟩ => ?_
  obtain ⟨_, e1, r1⟩ := ok1.top
  cases e1; cases r1
  exact ⟨b, rfl, q H1 ⟨G, ok1.pop⟩⟩
variable {N Bk Ct : List S → Prop} {Rt : S → List S → Prop} {Xc : List S → Addr → List (Str × D) → Prop} {t u : TS}
theorem sd_dropV (h : EVX K te δ s δ1) (n : N δ1) : SD K W (tDrop te) δ N Rt Bk Ct Xc := fun He Ge H σ Dn ok nx rt bk ct xx => h He Ge H [] [] σ rfl ok _ fun v H' ⟨G', ok'⟩ => nx _ _ _ ⟨G', ok'.pop⟩ n
theorem sd_dropXV (h : EXX K (WE W) te δ δ1 c cf) (n : Xc δ1 c cf) : SD K W (tDrop te) δ N Rt Bk Ct Xc := fun He Ge H σ Dn ok nx rt bk ct xx => h He Ge H [] [] σ rfl ok (fun cls d G' H' ok' x => xx c cf cls d G' σ δ1 H' ok' x n) _
theorem sd_setV {i : Nat} (h : EVX K te δ s δ1) (hi : i < δ1.length) (n : N (δ1.set i s)) : SD K W (tAsg te (gName i)) δ N Rt Bk Ct Xc := fun He Ge H σ Dn ok nx rt bk ct xx => h He Ge H [] [] σ rfl ok _ fun v H' ⟨G', ok'⟩ => nx _ _ _ ⟨G', ok'.store hi⟩ n
theorem sd_asgXV {g : TG} (h : EXX K (WE W) te δ δ1 c cf) (n : Xc δ1 c cf) : SD K W (tAsg te g) δ N Rt Bk Ct Xc := fun He Ge H σ Dn ok nx rt bk ct xx => h He Ge H [] [] σ rfl ok (fun cls d G' H' ok' x => xx c cf cls d G' σ δ1 H' ok' x n) _
theorem sd_ifV (h : EBX K tt δ b δ1) (h1 : b = true → SD K W t δ1 N Rt Bk Ct Xc) (h2 : b = false → SD K W u δ1 N Rt Bk Ct Xc) : SD K W (tIfS tt t u) δ N Rt Bk Ct Xc := fun He Ge H σ Dn ok nx r bk ct xx =>
  h He Ge H [] [] σ rfl ok _ fun H' ok' => by
    cases b with
    | true => exact iteT (h1 rfl He Ge H' σ Dn ok' nx r bk ct xx)
    | false => exact iteF (h2 rfl He Ge H' σ Dn ok' nx r bk ct xx)
theorem sd_retV (h : EVX K te δ s δ1) (hs : notOt s = true) (r : Rt s δ1) : SD K W (tRet te) δ N Rt Bk Ct Xc := fun He Ge H σ Dn ok nx rt bk ct xx => h He Ge H [] [] σ rfl ok _ fun v H' ⟨G', ok'⟩ => rt v s σ δ1 H' ⟨G', ok', oti_of hs⟩ r
theorem sd_retXV (h : EXX K (WE W) te δ δ1 c cf) (n : Xc δ1 c cf) : SD K W (tRet te) δ N Rt Bk Ct Xc := fun He Ge H σ Dn ok nx rt bk ct xx => h He Ge H [] [] σ rfl ok (fun cls d G' H' ok' x => xx c cf cls d G' σ δ1 H' ok' x n) _
/-- x.f += e, x an object of one's own in slot i -/
theorem sd_fldaug {i : Nat} {q : Option Addr} {f : Str} {rd : V → V → Hp → VK → Prop} (hi : δ[i]? = some (.ob q C fs)) (hf : fs.lookup f = some x) (h : EV K te δ (.d y)) (hr : RV2 K rd x y (.d z)) (cl : Cls K C) (na : NoAttr K C f) (hl : fs.length < 1000) (n : N (δ.set i (.ob q C (putD f z fs)))) : SD K W (sFldAug K (tVar i) te rd f) δ N Rt Bk Ct Xc := by
  intro He Ge H σ Dn ⟨G, ok⟩ nx rt bk ct xx
  obtain ⟨o, eo, a, dx, gs, rfl, kq, k1, k2, k3, k4, k5, k6, rf⟩ := ok.sl i _ hi
  obtain ⟨v, ev, rv⟩ := rf.lookup hf
  refine ⟨_, eo, a, C, dx, gs, v, rfl, k5, cl, na, ev, ?_⟩
  refine h He Ge H [some v] [.d x] σ rfl ⟨G, ok.pushD rv⟩ _ fun w H1 ⟨G1, ok1⟩ => ?_
  obtain ⟨_, e1, rw_⟩ := ok1.top
  cases e1
  obtain ⟨_, e2, rv1⟩ := ok1.pop.top
  cases e2
  refine hr He Ge H1 G1 _ _ v w ok1.pop.pop rv1 rw_ _ fun z' H2 ⟨G2, ok2⟩ => ?_
  change OKG K He Ge H2 G2 (some z' :: σ) (.d z :: δ) at ok2
  obtain ⟨_, e4, rz⟩ := ok2.top
  cases e4
  obtain ⟨o3, eo3, a3, dx3, gs3, e5, kq3, m1, m2, m3, m4, m5, m6, rf3⟩ := ok2.pop.sl i _ hi
  rw [eo] at eo3; cases eo3; cases e5
  exact ⟨dx3, gs3, m5, by rw [← rf3.length]; exact hl, nx _ _ _ ⟨G2, ok2.pop.changeOb hi eo m5 (rf3.put rz)⟩ n⟩
end
/-! ### structures -/
inductive MX (α : Type) where
  | no | ex (δ : List S) (c : Addr) (fs : List (Str × D)) | ok (a : α) (δ : List S)
/-- what a method's run tells that may change its object -/
inductive MR where
  | no | ex (c : Addr) (fs : List (Str × D)) | ok (s : S) (fs : List (Str × D))
def RM (F : List (Str × D) → List D → MR) (fs : List (Str × D)) (xs : List D) (out : Out) (fs2 : List (Str × D)) : Prop := (∃ s, F fs xs = .ok s fs2 ∧ out = .ret s) ∨ (∃ c cf, F fs xs = .ex c cf ∧ out = .exc c cf)
def EVXF (K : PySem.W.Frag) (W : WX) (te : TE) (δ : List S) : MX S → Prop
  | .no => True | .ex δ1 c fs => EXX K (WE W) te δ δ1 c fs | .ok s δ1 => EVX K te δ s δ1
def EAXF (K : PySem.W.Frag) (ta : TA) (δ : List S) : MX (List D) → Prop
  | .ok xs δ1 => EAX K ta δ xs δ1 | _ => True
def EBXF (K : PySem.W.Frag) (tt : TT) (δ : List S) : MX Bool → Prop
  | .ok b δ1 => EBX K tt δ b δ1 | _ => True
variable (Hy : PySem.W.Frag → Prop)
structure SX where
  t : PySem.W.Frag → WX → TE
  f : List S → MX S
  ok : ∀ K, Hy K → ∀ W δ, EVXF K W (t K W) δ (f δ)
structure SAX where
  t : PySem.W.Frag → WX → TA
  f : List S → MX (List D)
  ok : ∀ K, Hy K → ∀ W δ, EAXF K (t K W) δ (f δ)
structure STX where
  t : PySem.W.Frag → WX → TT
  f : List S → MX Bool
  ok : ∀ K, Hy K → ∀ W δ, EBXF K (t K W) δ (f δ)
variable {Hy}
section
variable {K : PySem.W.Frag} {δ δ1 : List S} {W : WX}
theorem SX.okS (e : SX Hy) (hk : Hy K) {W : WX} {s : S} (h : e.f δ = .ok s δ1) : EVX K (e.t K W) δ s δ1 := by have z := e.ok K hk W δ; rw [h] at z; exact z
theorem SX.exS (e : SX Hy) (hk : Hy K) {W : WX} {c : Addr} {fs : List (Str × D)} (h : e.f δ = .ex δ1 c fs) : EXX K (WE W) (e.t K W) δ δ1 c fs := by have z := e.ok K hk W δ; rw [h] at z; exact z
theorem SAX.okA (e : SAX Hy) (hk : Hy K) {W : WX} {s : List D} (h : e.f δ = .ok s δ1) : EAX K (e.t K W) δ s δ1 := by have z := e.ok K hk W δ; rw [h] at z; exact z
theorem STX.okB (e : STX Hy) (hk : Hy K) {W : WX} {s : Bool} (h : e.f δ = .ok s δ1) : EBX K (e.t K W) δ s δ1 := by have z := e.ok K hk W δ; rw [h] at z; exact z
end
def SX.of (e : SE Hy) : SX Hy where
  t := e.t
  f δ := match e.f δ with | .ok s => .ok s δ | .ex c fs => .ex δ c fs | .no => .no
  ok K hk W δ := by
    cases h : e.f δ with
    | ok s => exact evx_of (e.okS hk h)
    | ex c fs => exact exx_of (e.exS hk h)
    | no => trivial
def SAX.of (a : SA Hy) : SAX Hy where
  t := a.t
  f δ := match a.f δ with | .ok s => .ok s δ | _ => .no
  ok K hk W δ := by
    cases h : a.f δ with
    | ok s => exact eax_of (a.okA hk h)
    | _ => trivial
def STX.of (a : ST Hy) : STX Hy where
  t := a.t
  f δ := match a.f δ with | .ok s => .ok s δ | _ => .no
  ok K hk W δ := by
    cases h : a.f δ with
    | ok s => exact ebx_of (a.okB hk h)
    | _ => trivial
def MX.bin {α β : Type} (m : MX α) (f : α → List S → MX β) : MX β := match m with | .ok a δ => f a δ | _ => .no
@[simp] theorem MX.ok_bin {α β : Type} {a : α} {δ : List S} {f : α → List S → MX β} : (MX.ok a δ).bin f = f a δ := (rfl)
@[simp] theorem MX.no_bin {α β : Type} {f : α → List S → MX β} : (MX.no : MX α).bin f = .no := (rfl)
def MX.ofM {α : Type} (m : M α) (δ : List S) : MX α := match m with | .ok a => .ok a δ | _ => .no
@[simp] theorem MX.ofM_ok {α : Type} {a : α} {δ : List S} : MX.ofM (.ok a) δ = .ok a δ := (rfl)
@[simp] theorem SX.of_f (e : SE Hy) (δ : List S) : (SX.of e).f δ = match e.f δ with | .ok s => .ok s δ | .ex c fs => .ex δ c fs | .no => .no := (rfl)
@[simp] theorem SAX.of_f (e : SA Hy) (δ : List S) : (SAX.of e).f δ = match e.f δ with | .ok s => .ok s δ | _ => .no := (rfl)
@[simp] theorem STX.of_f (e : ST Hy) (δ : List S) : (STX.of e).f δ = match e.f δ with | .ok s => .ok s δ | _ => .no := (rfl)
/-- a call of a method that may change the object in slot i -/
def methXF (i : Nat) (C : Addr) (m : Str) (F : List (Str × D) → List D → MR) (xs : M (List D)) (δ : List S) : MX S :=
  match obj δ i with
  | .ok p => if p.2.1 = C ∧ p.2.2.lookup m = none then (match xs with
      | .ok xs => (match F p.2.2 xs with | .ok s fs2 => .ok s (δ.set i (.ob p.1 C fs2)) | .ex c cf => .ex (δ.set i .un) c cf | .no => .no)
      | _ => .no) else .no
  | _ => .no
def SX.meth (i : Nat) (C : Addr) (m : Str) (F : List (Str × D) → List D → MR) (a : SA Hy) : SX Hy where
  t K W := tMethS C m (spM K C (RM F)) (fun _ => E0) (tVar i) (a.t K W)
  f δ := match methXF i C m F (a.f δ) δ with | .ok s δ => .ok s δ | _ => .no
  ok K hk W δ := by
    unfold methXF
    cases h : obj δ i with
    | ok p =>
      simp only
      by_cases z : p.2.1 = C ∧ p.2.2.lookup m = none
      · rw [if_pos z]
        cases h2 : a.f δ with
        | ok xs =>
          simp only
          cases h3 : F p.2.2 xs with
          | ok s fs2 =>
            have hi := obj_ok h
            rw [z.1] at hi
            exact evx_meth hi z.2 (a.okA hk h2) (.inl ⟨s, h3, rfl⟩)
          | _ => trivial
        | _ => trivial
      · rw [if_neg z]; trivial
    | _ => trivial
def SX.methX (i : Nat) (C : Addr) (m : Str) (F : List (Str × D) → List D → MR) (a : SA Hy) : SX Hy where
  t K W := tMethS C m (spM K C (RM F)) (WE W) (tVar i) (a.t K W)
  f δ := methXF i C m F (a.f δ) δ
  ok K hk W δ := by
    unfold methXF
    cases h : obj δ i with
    | ok p =>
      simp only
      by_cases z : p.2.1 = C ∧ p.2.2.lookup m = none
      · rw [if_pos z]
        cases h2 : a.f δ with
        | ok xs =>
          simp only
          have hi := obj_ok h
          rw [z.1] at hi
          cases h3 : F p.2.2 xs with
          | ok s fs2 => exact evx_meth hi z.2 (a.okA hk h2) (.inl ⟨s, h3, rfl⟩)
          | ex c cf => exact exx_meth (fs2 := []) hi z.2 (a.okA hk h2) (.inr ⟨c, cf, h3, rfl⟩)
          | no => trivial
        | _ => trivial
      · rw [if_neg z]; trivial
    | _ => trivial
@[simp] theorem SX.meth_f (i : Nat) (C : Addr) (m : Str) (F : List (Str × D) → List D → MR) (a : SA Hy) (δ : List S) : (SX.meth i C m F a).f δ = match methXF i C m F (a.f δ) δ with | .ok s δ => .ok s δ | _ => .no := (rfl)
@[simp] theorem SX.methX_f (i : Nat) (C : Addr) (m : Str) (F : List (Str × D) → List D → MR) (a : SA Hy) (δ : List S) : (SX.methX i C m F a).f δ = methXF i C m F (a.f δ) δ := (rfl)
def SAX.cons (e : SX Hy) (r : SAX Hy) : SAX Hy where
  t K W := tCons (e.t K W) (r.t K W)
  f δ := (e.f δ).bin fun s δ1 => (MX.ofM (toD s) δ1).bin fun x δ1 => (r.f δ1).bin fun xs δ2 => .ok (x :: xs) δ2
  ok K hk W δ := by
    cases h : e.f δ with
    | ok s δ1 =>
      simp only [MX.ok_bin]
      cases h2 : toD s with
      | ok x =>
        simp only [MX.ofM_ok, MX.ok_bin]
        cases h3 : r.f δ1 with
        | ok xs δ2 => exact eax_cons (evx_toD (e.okS hk h) h2) (r.okA hk h3)
        | _ => trivial
      | _ => trivial
    | _ => trivial
@[simp] theorem SAX.cons_f (e : SX Hy) (r : SAX Hy) (δ : List S) : (SAX.cons e r).f δ = (e.f δ).bin fun s δ1 => (MX.ofM (toD s) δ1).bin fun x δ1 => (r.f δ1).bin fun xs δ2 => .ok (x :: xs) δ2 := (rfl)
def SX.call (F : List D → M S) (a : SAX Hy) : SX Hy where
  t K W := tCall (spD K (RF F)) [] E0 (a.t K W)
  f δ := (a.f δ).bin fun xs δ1 => MX.ofM (F xs) δ1
  ok K hk W δ := by
    cases h : a.f δ with
    | ok xs δ1 =>
      simp only [MX.ok_bin]
      cases h2 : F xs with
      | ok s => exact evx_call (a.okA hk h) (.inl ⟨s, h2, rfl⟩)
      | _ => trivial
    | _ => trivial
@[simp] theorem SX.call_f (F : List D → M S) (a : SAX Hy) (δ : List S) : (SX.call F a).f δ = (a.f δ).bin fun xs δ1 => MX.ofM (F xs) δ1 := (rfl)
def SX.cb (o : OB Hy) (a : SAX Hy) : SX Hy where
  t K W := tCB (o.r K) (a.t K W)
  f δ := (a.f δ).bin fun xs δ1 => MX.ofM (.of (o.f xs)) δ1
  ok K hk W δ := by
    cases h : a.f δ with
    | ok xs δ1 =>
      simp only [MX.ok_bin]
      cases h2 : o.f xs with
      | some s => exact evx_cb (a.okA hk h) (o.ok K hk xs s h2)
      | none => trivial
    | _ => trivial
@[simp] theorem SX.cb_f (o : OB Hy) (a : SAX Hy) (δ : List S) : (SX.cb o a).f δ = (a.f δ).bin fun xs δ1 => MX.ofM (.of (o.f xs)) δ1 := (rfl)
def SX.op (o : O2) (a b : SX Hy) : SX Hy where
  t K W := tOp (o.r K) (a.t K W) (b.t K W)
  f δ := (a.f δ).bin fun s δ1 => (MX.ofM (toD s) δ1).bin fun x δ1 => (b.f δ1).bin fun s δ2 => (MX.ofM (toD s) δ2).bin fun y δ2 => MX.ofM (.of (o.f x y)) δ2
  ok K hk W δ := by
    cases h : a.f δ with
    | ok s δ1 =>
      simp only [MX.ok_bin]
      cases h2 : toD s with
      | ok x =>
        simp only [MX.ofM_ok, MX.ok_bin]
        cases h3 : b.f δ1 with
        | ok s2 δ2 =>
          simp only [MX.ok_bin]
          cases h4 : toD s2 with
          | ok y =>
            simp only [MX.ofM_ok, MX.ok_bin]
            cases h5 : o.f x y with
            | some s => exact evx_op (evx_toD (a.okS hk h) h2) (evx_toD (b.okS hk h3) h4) (o.ok K x y s h5)
            | none => trivial
          | _ => trivial
        | _ => trivial
      | _ => trivial
    | _ => trivial
@[simp] theorem SX.op_f (o : O2) (a b : SX Hy) (δ : List S) : (SX.op o a b).f δ = (a.f δ).bin fun s δ1 => (MX.ofM (toD s) δ1).bin fun x δ1 => (b.f δ1).bin fun s δ2 => (MX.ofM (toD s) δ2).bin fun y δ2 => MX.ofM (.of (o.f x y)) δ2 := (rfl)
def STX.tru (e : SX Hy) : STX Hy where
  t K W := tTru K (e.t K W)
  f δ := (e.f δ).bin fun s δ1 => (MX.ofM (toD s) δ1).bin fun x δ1 => MX.ofM (.of (Far.tru x)) δ1
  ok K hk W δ := by
    cases h : e.f δ with
    | ok s δ1 =>
      simp only [MX.ok_bin]
      cases h2 : toD s with
      | ok x =>
        simp only [MX.ofM_ok, MX.ok_bin]
        cases h3 : Far.tru x with
        | some b => exact ebx_tru (evx_toD (e.okS hk h) h2) (tru_ok h3)
        | none => trivial
      | _ => trivial
    | _ => trivial
@[simp] theorem STX.tru_f (e : SX Hy) (δ : List S) : (STX.tru e).f δ = (e.f δ).bin fun s δ1 => (MX.ofM (toD s) δ1).bin fun x δ1 => MX.ofM (.of (Far.tru x)) δ1 := (rfl)
def STX.not (c : STX Hy) : STX Hy where
  t K W := tNot (c.t K W)
  f δ := (c.f δ).bin fun b δ1 => .ok (!b) δ1
  ok K hk W δ := by
    cases h : c.f δ with
    | ok b δ1 => exact ebx_not (c.okB hk h)
    | _ => trivial
@[simp] theorem STX.not_f (c : STX Hy) (δ : List S) : (STX.not c).f δ = (c.f δ).bin fun b δ1 => .ok (!b) δ1 := (rfl)
def STX.or (c e : STX Hy) : STX Hy where
  t K W := tOr (c.t K W) (e.t K W)
  f δ := (c.f δ).bin fun b δ1 => if b = true then .ok true δ1 else e.f δ1
  ok K hk W δ := by
    cases h : c.f δ with
    | ok b δ1 =>
      simp only [MX.ok_bin]
      cases b with
      | true => rw [if_pos rfl]; exact ebx_orT (c.okB hk h)
      | false =>
        rw [if_neg (fun z => nomatch z)]
        cases h2 : e.f δ1 with
        | ok k δ2 => exact ebx_orF (c.okB hk h) (e.okB hk h2)
        | _ => trivial
    | _ => trivial
@[simp] theorem STX.or_f (c e : STX Hy) (δ : List S) : (STX.or c e).f δ = (c.f δ).bin fun b δ1 => if b = true then .ok true δ1 else e.f δ1 := (rfl)
def STX.and (c e : STX Hy) : STX Hy where
  t K W := tAnd (c.t K W) (e.t K W)
  f δ := (c.f δ).bin fun b δ1 => if b = true then e.f δ1 else .ok false δ1
  ok K hk W δ := by
    cases h : c.f δ with
    | ok b δ1 =>
      simp only [MX.ok_bin]
      cases b with
      | false => rw [if_neg (fun z => nomatch z)]; exact ebx_andF (c.okB hk h)
      | true =>
        rw [if_pos rfl]
        cases h2 : e.f δ1 with
        | ok k δ2 => exact ebx_andT (c.okB hk h) (e.okB hk h2)
        | _ => trivial
    | _ => trivial
@[simp] theorem STX.and_f (c e : STX Hy) (δ : List S) : (STX.and c e).f δ = (c.f δ).bin fun b δ1 => if b = true then e.f δ1 else .ok false δ1 := (rfl)
/-! ### statements -/
def Fl.expX {α : Type} (m : MX α) (f : α → List S → Fl) : Fl := match m with | .no => .no | .ex δ c fs => .ex δ c fs | .ok a δ => f a δ
@[simp] theorem Fl.ok_expX {α : Type} {a : α} {δ : List S} {f : α → List S → Fl} : Fl.expX (.ok a δ) f = f a δ := (rfl)
@[simp] theorem Fl.ex_expX {α : Type} {c : Addr} {fs : List (Str × D)} {δ : List S} {f : α → List S → Fl} : Fl.expX (.ex δ c fs) f = .ex δ c fs := (rfl)
def SS.dropX (e : SX Hy) : SS Hy where
  t K W := tDrop (e.t K W)
  f δ := Fl.expX (e.f δ) fun _ δ1 => .nx δ1
  ok K hk W δ := by
    cases h : e.f δ with
    | no => trivial
    | ex δ1 c fs => exact sd_dropXV (e.exS hk h) rfl
    | ok s δ1 => exact sd_dropV (e.okS hk h) rfl
@[simp] theorem SS.dropX_f (e : SX Hy) (δ : List S) : (SS.dropX e).f δ = Fl.expX (e.f δ) fun _ δ1 => .nx δ1 := (rfl)
def SS.setX (i : Nat) (e : SX Hy) : SS Hy where
  t K W := tAsg (e.t K W) (gName i)
  f δ := Fl.expX (e.f δ) fun s δ1 => if i < δ1.length then .nx (δ1.set i s) else .no
  ok K hk W δ := by
    cases h : e.f δ with
    | no => trivial
    | ex δ1 c fs => exact sd_asgXV (e.exS hk h) rfl
    | ok s δ1 =>
      rw [Fl.ok_expX]
      by_cases z : i < δ1.length
      · rw [if_pos z]; exact sd_setV (e.okS hk h) z rfl
      · rw [if_neg z]; trivial
@[simp] theorem SS.setX_f (i : Nat) (e : SX Hy) (δ : List S) : (SS.setX i e).f δ = Fl.expX (e.f δ) fun s δ1 => if i < δ1.length then .nx (δ1.set i s) else .no := (rfl)
def SS.iteX (c : STX Hy) (a b : SS Hy) : SS Hy where
  t K W := tIfS (c.t K W) (a.t K W) (b.t K W)
  f δ := match c.f δ with | .ok k δ1 => if k = true then a.f δ1 else b.f δ1 | _ => .no
  ok K hk W δ := by
    cases h : c.f δ with
    | ok k δ1 =>
      simp only
      cases k with
      | true => rw [if_pos rfl]; exact sdf_of fun n => sd_ifV (c.okB hk h) (fun _ => a.okR hk n) fun z => nomatch z
      | false => rw [if_neg (fun z => nomatch z)]; exact sdf_of fun n => sd_ifV (c.okB hk h) (fun z => nomatch z) fun _ => b.okR hk n
    | _ => trivial
@[simp] theorem SS.iteX_f (c : STX Hy) (a b : SS Hy) (δ : List S) : (SS.iteX c a b).f δ = match c.f δ with | .ok k δ1 => if k = true then a.f δ1 else b.f δ1 | _ => .no := (rfl)
/-- return e, and what the slots are then -/
def SS.retS (e : SE Hy) : SS Hy where
  t K W := tRet (e.t K W)
  f δ := Fl.exp (e.f δ) δ fun s => if notOt s = true then .rto s δ else .no
  ok K hk W δ := by
    cases h : e.f δ with
    | no => trivial
    | ex c fs => exact sd_retX (e.exS hk h) rfl
    | ok s =>
      rw [Fl.ok_exp]
      by_cases z : notOt s = true
      · rw [if_pos z]; exact sd_ret (e.okS hk h) z (.inr rfl)
      · rw [if_neg z]; trivial
@[simp] theorem SS.retS_f (e : SE Hy) (δ : List S) : (SS.retS e).f δ = Fl.exp (e.f δ) δ fun s => if notOt s = true then .rto s δ else .no := (rfl)
def SS.retX (e : SX Hy) : SS Hy where
  t K W := tRet (e.t K W)
  f δ := Fl.expX (e.f δ) fun s δ1 => if notOt s = true then .rto s δ1 else .no
  ok K hk W δ := by
    cases h : e.f δ with
    | no => trivial
    | ex δ1 c fs => exact sd_retXV (e.exS hk h) rfl
    | ok s δ1 =>
      rw [Fl.ok_expX]
      by_cases z : notOt s = true
      · rw [if_pos z]; exact sd_retV (e.okS hk h) z (.inr rfl)
      · rw [if_neg z]; trivial
@[simp] theorem SS.retX_f (e : SX Hy) (δ : List S) : (SS.retX e).f δ = Fl.expX (e.f δ) fun s δ1 => if notOt s = true then .rto s δ1 else .no := (rfl)
@[simp] theorem notOt_d {x : D} : notOt (.d x) = true := (rfl)
@[simp] theorem notOt_own {x : List D} : notOt (.own x) = true := (rfl)
/-- an augmented operation on a field -/
structure OF where
  r : V → V → Hp → VK → Prop
  f : D → D → Option D
  ok : ∀ K x y z, f x y = some z → RV2 K r x y (.d z)
def SS.augF (i : Nat) (f : Str) (Cs : List Addr) (hf : FldOk Hy f Cs) (o : OF) (e : SE Hy) : SS Hy where
  t K W := sFldAug K (tVar i) (e.t K W) o.r f
  f δ := Fl.exn (obj δ i) fun p => Fl.exn (e.fd δ) fun y => match p.2.2.lookup f with
    | some x => (match o.f x y with | some z => if p.2.1 ∈ Cs ∧ p.2.2.length < 1000 then .nx (δ.set i (.ob p.1 p.2.1 (putD f z p.2.2))) else .no | none => .no)
    | none => .no
  ok K hk W δ := by
    cases h : obj δ i with
    | ok p =>
      rw [Fl.ok_exn]
      cases h2 : e.fd δ with
      | ok y =>
        rw [Fl.ok_exn]
        cases h3 : p.2.2.lookup f with
        | none => trivial
        | some x =>
          simp only
          cases h4 : o.f x y with
          | none => trivial
          | some z =>
            simp only
            by_cases q : p.2.1 ∈ Cs ∧ p.2.2.length < 1000
            · rw [if_pos q]; obtain ⟨c, n⟩ := hf K hk _ q.1; exact sd_fldaug (obj_ok h) h3 (e.okD hk h2) (o.ok K x y z h4) c n q.2 rfl
            · rw [if_neg q]; trivial
      | _ => trivial
    | _ => trivial
@[simp] theorem SS.augF_f (i : Nat) (f : Str) (Cs : List Addr) (hf : FldOk Hy f Cs) (o : OF) (e : SE Hy) (δ : List S) : (SS.augF i f Cs hf o e).f δ = Fl.exn (obj δ i) fun p => Fl.exn (e.fd δ) fun y => match p.2.2.lookup f with
    | some x => (match o.f x y with | some z => if p.2.1 ∈ Cs ∧ p.2.2.length < 1000 then .nx (δ.set i (.ob p.1 p.2.1 (putD f z p.2.2))) else .no | none => .no)
    | none => .no := (rfl)
def fAdd : OF := ⟨rAdd, fun x y => match x, y with | .int i, .int j => some (.int (i + j)) | _, _ => none, fun K x y z h => by
  cases x <;> cases y <;> try (cases h; done)
  simp only [Option.some.injEq] at h
  subst h
  intro He Ge H G σ δ v u ok rv ru Q q
  cases rv; cases ru
  exact ⟨_, _, rfl, rfl, q _ _ ⟨G, ok.pushD .int⟩⟩⟩
def fSub : OF := ⟨rSub, fun x y => match x, y with | .int i, .int j => some (.int (i - j)) | _, _ => none, fun K x y z h => by
  cases x <;> cases y <;> try (cases h; done)
  simp only [Option.some.injEq] at h
  subst h
  intro He Ge H G σ δ v u ok rv ru Q q
  cases rv; cases ru
  exact ⟨_, _, rfl, rfl, q _ _ ⟨G, ok.pushD .int⟩⟩⟩
@[simp] theorem fAdd_f {i j : Int} : fAdd.f (.int i) (.int j) = some (.int (i + j)) := (rfl)
@[simp] theorem fSub_f {i j : Int} : fSub.f (.int i) (.int j) = some (.int (i - j)) := (rfl)
/-! ### lent -/
def lendOM (Cs : List Addr) (ll : Bool) (δ : List S) : M S → M S
  | .ok s => if δ.all (okl Cs ll) = true ∧ rfoS Cs ll s = true then .ok s else .no
  | .ex c cf => if δ.all (okl Cs ll) = true ∧ (cf.all fun p => rfo Cs ll p.2) = true then .ex c cf else .no
  | .no => .no
def SE.lendO (Cs : List Addr) (ll : Bool) (e : SE Hy) : SE Hy where
  t K W := e.t K W
  f δ := lendOM Cs ll δ (e.f (δ.map lendSO))
  ok K hk W δ := by
    have z := e.ok K hk W (δ.map lendSO)
    cases h : e.f (δ.map lendSO) with
    | ok s =>
      rw [h] at z
      show EVF K W _ δ (if _ then .ok s else .no)
      by_cases q : δ.all (okl Cs ll) = true ∧ rfoS Cs ll s = true
      · rw [if_pos q]; exact ev_lendO z q.1 q.2
      · rw [if_neg q]; trivial
    | ex c cf =>
      rw [h] at z
      show EVF K W _ δ (if _ then .ex c cf else .no)
      by_cases q : δ.all (okl Cs ll) = true ∧ (cf.all fun p => rfo Cs ll p.2) = true
      · rw [if_pos q]; exact ex_lendO z q.1 (by rw [rfoF_all]; exact q.2)
      · rw [if_neg q]; trivial
    | no => trivial
@[simp] theorem SE.lendO_f (Cs : List Addr) (ll : Bool) (e : SE Hy) (δ : List S) : (SE.lendO Cs ll e).f δ = lendOM Cs ll δ (e.f (δ.map lendSO)) := (rfl)
@[simp] theorem lendOM_ok {Cs : List Addr} {ll : Bool} {δ : List S} {s : S} : lendOM Cs ll δ (.ok s) = if δ.all (okl Cs ll) = true ∧ rfoS Cs ll s = true then .ok s else .no := (rfl)
@[simp] theorem lendOM_ex {Cs : List Addr} {ll : Bool} {δ : List S} {c : Addr} {cf : List (Str × D)} : lendOM Cs ll δ (.ex c cf) = if δ.all (okl Cs ll) = true ∧ (cf.all fun p => rfo Cs ll p.2) = true then .ex c cf else .no := (rfl)
def ST.lendO (Cs : List Addr) (ll : Bool) (e : ST Hy) : ST Hy where
  t K W := e.t K W
  f δ := if δ.all (okl Cs ll) = true then e.f (δ.map lendSO) else .no
  ok K hk W δ := by
    have z := e.ok K hk W (δ.map lendSO)
    by_cases q : δ.all (okl Cs ll) = true
    · rw [if_pos q]
      cases h : e.f (δ.map lendSO) with
      | ok b => rw [h] at z; exact eb_lendO z q
      | _ => trivial
    · rw [if_neg q]; trivial
@[simp] theorem ST.lendO_f (Cs : List Addr) (ll : Bool) (e : ST Hy) (δ : List S) : (ST.lendO Cs ll e).f δ = if δ.all (okl Cs ll) = true then e.f (δ.map lendSO) else .no := (rfl)
@[simp] theorem lendSO_own {xs : List D} : lendSO (.own xs) = .d (.lst xs) := (rfl)
@[simp] theorem lendSO_ob {q : Option Addr} {C : Addr} {fs : List (Str × D)} : lendSO (.ob q C fs) = .d (.ins C fs) := (rfl)
@[simp] theorem lendSO_d {x : D} : lendSO (.d x) = .d x := (rfl)
@[simp] theorem lendSO_un : lendSO .un = .un := (rfl)
@[simp] theorem okl_own {Cs : List Addr} {ll : Bool} {xs : List D} : okl Cs ll (.own xs) = !ll := (rfl)
@[simp] theorem okl_ob {Cs : List Addr} {ll : Bool} {q : Option Addr} {C : Addr} {fs : List (Str × D)} : okl Cs ll (.ob q C fs) = Cs.contains C := (rfl)
@[simp] theorem okl_d {Cs : List Addr} {ll : Bool} {x : D} : okl Cs ll (.d x) = true := (rfl)
@[simp] theorem okl_un {Cs : List Addr} {ll : Bool} : okl Cs ll .un = true := (rfl)
@[simp] theorem rfoS_d {Cs : List Addr} {ll : Bool} {x : D} : rfoS Cs ll (.d x) = rfo Cs ll x := (rfl)
@[simp] theorem rfoS_own {Cs : List Addr} {ll : Bool} {xs : List D} : rfoS Cs ll (.own xs) = xs.all (rfo Cs ll) := rfoL_all xs
section
variable {Cs : List Addr} {ll : Bool}
@[simp] theorem rfo_non : rfo Cs ll .non = true := by rw [rfo]
@[simp] theorem rfo_bl {b : Bool} : rfo Cs ll (.bl b) = true := by rw [rfo]
@[simp] theorem rfo_int {b : Int} : rfo Cs ll (.int b) = true := by rw [rfo]
@[simp] theorem rfo_str {b : Str} : rfo Cs ll (.str b) = true := by rw [rfo]
@[simp] theorem rfo_tup {xs : List D} : rfo Cs ll (.tup xs) = xs.all (rfo Cs ll) := by rw [rfo]; exact rfoL_all xs
@[simp] theorem rfo_lst {xs : List D} : rfo Cs ll (.lst xs) = (ll && xs.all (rfo Cs ll)) := by rw [rfo, rfoL_all xs]
@[simp] theorem rfo_ins {C : Addr} {fs : List (Str × D)} : rfo Cs ll (.ins C fs) = (!(Cs.contains C) && fs.all fun p => rfo Cs ll p.2) := by rw [rfo, rfoF_all fs]
end
/-! ### made -/
def makeOF (C : Addr) (F : List (Str × D) → List D → MR) (xs : List D) : M S := match F [] xs with | .ok (.d .non) fs => .ok (.ob none C fs) | _ => .no
def SE.makeO (C : Addr) (F : List (Str × D) → List D → MR) (a : SA Hy) : SE Hy where
  t K W := tMakeS C (spM K C (RM F)) (fun _ => E0) (a.t K W)
  f δ := (a.f δ).bin (makeOF C F)
  ok K hk W δ := by
    cases h : a.f δ with
    | ok xs =>
      rw [M.ok_bin]
      unfold makeOF
      split
      · rename_i fs h2; exact ev_makeO (a.okA hk h) (.inl ⟨_, h2, rfl⟩)
      · trivial
    | _ => trivial
@[simp] theorem SE.makeO_f (C : Addr) (F : List (Str × D) → List D → MR) (a : SA Hy) (δ : List S) : (SE.makeO C F a : SE Hy).f δ = (a.f δ).bin (makeOF C F) := (rfl)
/-! ### runs -/
def runM (b : SS Hy) (n np : Nat) (C x : Addr) (fs : List (Str × D)) (xs : List D) : MR := if xs.length + 1 = np then (match b.f (slotsM n x C fs xs) with
    | .nx (.ob (some x') C' fs' :: _) => if x' = x ∧ C' = C then .ok (.d .non) fs' else .no
    | .rto s (.ob (some x') C' fs' :: _) => if x' = x ∧ C' = C then .ok s fs' else .no
    | .ex _ c fs => .ex c fs | _ => .no) else .no
open Classical in
/-- a method's run: the same wherever its object lies -/
noncomputable def mR (F : Addr → List (Str × D) → List D → MR) (fs : List (Str × D)) (xs : List D) : MR := if ∀ x, F x fs xs = F 0 fs xs then F 0 fs xs else .no
theorem mR_eq {F : Addr → List (Str × D) → List D → MR} {fs : List (Str × D)} {xs : List D} {r : MR} (h : ∀ x, F x fs xs = r) : mR F fs xs = r := by
  unfold mR; rw [if_pos (fun x => (h x).trans (h 0).symm)]; exact h 0
theorem mR_ok {F : Addr → List (Str × D) → List D → MR} {fs : List (Str × D)} {xs : List D} {r : MR} (h : mR F fs xs = r) (n : r ≠ .no) : ∀ x, F x fs xs = r := by
  unfold mR at h
  split at h
  · rename_i q; intro x; rw [q x]; exact h
  · exact (n h.symm).elim
theorem runM_len {b : SS Hy} {n np : Nat} {C : Addr} {fs fs2 : List (Str × D)} {xs : List D} {out : Out} (h : RM (mR (runM b n np C)) fs xs out fs2) : xs.length + 1 = np := by
  by_cases e : xs.length + 1 = np
  · exact e
  · rcases h with ⟨s, h, _⟩ | ⟨c, cf, h, _⟩ <;> (have h := mR_ok h (fun z => nomatch z) 0; unfold runM at h; rw [if_neg e] at h; cases h)
theorem sd_runM {K : PySem.W.Frag} {b : SS Hy} {n np : Nat} {E : WX} {out : Out} {x C : Addr} {fs fs2 : List (Str × D)} {xs : List D} (hk : Hy K) (h : RM (mR (runM b n np C)) fs xs out fs2) : SDefM K E x C (b.t K E) (slotsM n x C fs xs) out fs2 := by
  unfold SDefM
  rcases h with ⟨s, h, rfl⟩ | ⟨c, cf, h, rfl⟩
  · replace h := mR_ok h (fun z => nomatch z) x
    unfold runM at h
    split at h
    · have hn : b.f (slotsM n x C fs xs) ≠ .no := fun z => by rw [z] at h; cases h
      refine sdr_mono (b.okR hk hn) (fun δ' e => ?_) (fun s _ e => ?_) (fun δ' e => ?_) (fun δ' e => ?_) (fun δ' c fs e => ?_) (fun s δ' e => ?_) <;> rw [e] at h
      · cases δ' with
        | nil => cases h
        | cons s δ' =>
          cases s with
          | ob x' C' fs' =>
            cases x' with
            | none => cases h
            | some x' =>
              simp only at h
              split at h
              · rename_i q; obtain ⟨rfl, rfl⟩ := q; cases h; exact ⟨rfl, rfl⟩
              · cases h
          | _ => cases h
      · cases h
      · cases h
      · cases h
      · cases h
      · cases δ' with
        | nil => cases h
        | cons s' δ' =>
          cases s' with
          | ob x' C' fs' =>
            cases x' with
            | none => cases h
            | some x' =>
              simp only at h
              split at h
              · rename_i q; obtain ⟨rfl, rfl⟩ := q; cases h; exact ⟨rfl, rfl⟩
              · cases h
          | _ => cases h
    · cases h
  · replace h := mR_ok h (fun z => nomatch z) x
    unfold runM at h
    split at h
    · have hn : b.f (slotsM n x C fs xs) ≠ .no := fun z => by rw [z] at h; cases h
      refine sdr_mono (b.okR hk hn) (fun δ' e => ?_) (fun s _ e => ?_) (fun δ' e => ?_) (fun δ' e => ?_) (fun δ' c fs e => ?_) (fun s δ' e => ?_) <;> rw [e] at h
      · cases δ' with
        | nil => cases h
        | cons s δ' =>
          cases s with
          | ob x' C' fs' =>
            cases x' with
            | none => cases h
            | some x' =>
              simp only at h
              split at h <;> cases h
          | _ => cases h
      · cases h
      · cases h
      · cases h
      · cases h; rfl
      · cases δ' with
        | nil => cases h
        | cons s' δ' =>
          cases s' with
          | ob x' C' fs' =>
            cases x' with
            | none => cases h
            | some x' =>
              simp only at h
              split at h <;> cases h
          | _ => cases h
    · cases h
def finM (x C : Addr) (r : Fl) : MR := match r with
    | .nx (.ob (some x') C' fs' :: _) => if x' = x ∧ C' = C then .ok (.d .non) fs' else .no
    | .rto s (.ob (some x') C' fs' :: _) => if x' = x ∧ C' = C then .ok s fs' else .no
    | .ex _ c fs => .ex c fs | _ => .no
@[simp] theorem finM_nx {x C : Addr} {fs : List (Str × D)} {l : List S} : finM x C (.nx (.ob (some x) C fs :: l)) = .ok (.d .non) fs := by unfold finM; simp
@[simp] theorem finM_rt {x C : Addr} {fs : List (Str × D)} {l : List S} {s : S} : finM x C (.rto s (.ob (some x) C fs :: l)) = .ok s fs := by unfold finM; simp
@[simp] theorem finM_ex {x C c : Addr} {fs : List (Str × D)} {l : List S} : finM x C (.ex l c fs) = .ex c fs := (rfl)
theorem runM_fin {b : SS Hy} {n np : Nat} {C x : Addr} {fs : List (Str × D)} {xs : List D} (h : xs.length + 1 = np) : runM b n np C x fs xs = finM x C (b.f (slotsM n x C fs xs)) := by unfold runM; rw [if_pos h]; rfl
@[simp] theorem Fl.rto_next {s : S} {δ : List S} {f : List S → Fl} : (Fl.rto s δ).next f = .rto s δ := (rfl)
open PyProof.Rows
section
variable {P : Program} {w : World} {K : PySem.W.Frag} {mg : Str → Option Value} {base : Heap}
theorem spM_len {C : Addr} {R : List (Str × D) → List D → Out → List (Str × D) → Prop} {n : Nat} (h : ∀ fs xs out fs2, R fs xs out fs2 → xs.length + 1 = n) : ∀ vs H Q E, spM K C R vs H Q E → vs.length = n := fun vs H Q E ⟨G, x, dx, us, fs, xs, out, fs2, e0, _, _, r, hr, _⟩ => by
  rw [e0, List.length_cons, ← r.length]; exact h fs xs out fs2 hr
theorem ok_meth {C : Addr} {x qual : Str} {st : Stmt} {f : Addr} {fd : FuncData} {N ps : List Str} {k : Nat} {R : List (Str × D) → List D → Out → List (Str × D) → Prop} {t : TS} (F : Fun K x qual st f fd) (S : FnScope N ps (defScope st)) (hl : ∀ fs xs out fs2, R fs xs out fs2 → xs.length + 1 = ps.length) (hN : 0 < N.length)
    (hd : ∀ (cdv : Value) (A : Around) (outer : List Env) (s : Shared) (H : Hp) (E : XK), Room k (A.deeper (envOfC qual (defScope st) s.heap.objs.size f cdv)) → PSs (cxOf CX0 P w K mg base N qual (defScope st) f cdv A outer s H E).nox (defBody st) t)
    (hs : ∀ (E : WX) x fs xs out fs2, R fs xs out fs2 → SDefM K E x C t (slotsM N.length x C fs xs) out fs2) : FnOk P w K mg base CX0 (k + 1) f fd ps (spM K C R) :=
  F.ok S (spM_len hl) fun cdv A outer s H vs Q E hr h => ⟨t, hd cdv A outer s H E hr, meth_run hN h (hs _)⟩
theorem ok_methX {C : Addr} {x qual : Str} {st : Stmt} {f : Addr} {fd : FuncData} {N ps : List Str} {k : Nat} {R : List (Str × D) → List D → Out → List (Str × D) → Prop} {t : WX → TS} (F : Fun K x qual st f fd) (S : FnScope N ps (defScope st)) (hl : ∀ fs xs out fs2, R fs xs out fs2 → xs.length + 1 = ps.length) (hN : 0 < N.length)
    (hd : ∀ (cdv : Value) (A : Around) (outer : List Env) (s : Shared) (H : Hp) (E : XK), Room k (A.deeper (envOfC qual (defScope st) s.heap.objs.size f cdv)) → PSs (cxOf (L2.CX P w) P w K mg base N qual (defScope st) f cdv A outer s H E) (defBody st) (t fun cls d _ H => E cls d H))
    (hs : ∀ (E : WX) x fs xs out fs2, R fs xs out fs2 → SDefM K E x C (t E) (slotsM N.length x C fs xs) out fs2) : FnOk P w K mg base (L2.CX P w) (k + 1) f fd ps (spM K C R) :=
  F.okX S (spM_len hl) fun cdv A outer s H vs Q E hr h => ⟨t _, hd cdv A outer s H E hr, meth_run hN h (hs _)⟩
end
end Far
/-! all of the layer -/
/-! Functions that are run where no guard is on, of a law that has tables of code objects. -/
namespace Far
open PySem L2 PySem.Spec PyProof.Rows
section
variable {CX : CXT} {P : Program} {w : World} {K : PySem.W.Frag} {mg : Str → Option Value}
theorem law_callGT {mb : Str → Option Value} {k : Nat} {fa a : Addr} {cs : List (Addr × Addr)} {fd : FuncData} {x : Str} {sp : Sp} {s₁ : Shared} {vs : List Value} {ns : List Int}
    (KX : K.In s₁.heap) (hns : s₁.heap.Ns mainGlobals mg) (hb : s₁.heap.Ns builtinsNs mb) (hbb : ∀ x : Str, x ≠ Str.ofString "__name__" → mb x = bootBuiltins x) (hlim : s₁.heap.NoLimit) (hg : s₁.gens = #[])
    (hT : ∀ p : Addr × Addr, p ∈ cs → s₁.heap.get? p.2 = some { cls := .none, data := .fields #[] }) (nT : ∀ p : Addr × Addr, p ∈ cs → List.lookup p.2 K = none) (C : ∀ p : Addr × Addr, p ∈ cs → PySem.W.CodeHd s₁.heap p.1 p.2)
    (bmain : ∃ bm ob, mg (Str.ofString "__builtins__") = some (.ref bm) ∧ bm ≠ builtinsNs ∧ s₁.heap.get? bm = some ob ∧ ob.cls = .type "module" ∧ ob.dict = some builtinsNs ∧ ob.data = .plain)
    (ha : s₁.heap.get? a = some { cls := .type "list", data := .seq vs.toArray }) (hi : IntsAre vs ns) (hl : ns.length ≤ sizeLine) (hr : Room k callerA)
    (F : ∀ base : Heap, K.In base → base.Ns mainGlobals mg → (∀ p : Addr × Addr, p ∈ cs → LamX.TabB base mg p.1 p.2) → FnOkG P w K mg base CX k fa fd [x] sp) (hbind : ∀ (s : Shared) (u : Value), BindsTo s fd ⟨[u], []⟩ [(x, u)])
    (hsp : ∀ H : Hp, (∀ p : Addr × Addr, p ∈ cs → H p.2 = some (.tbl #[])) → SqL K H a (ns.map V.int) → sp [.ref a] H (fun v _ => v = .bl true) fun _ _ _ => False) (hCX : ∀ (H : Hp) (e : Value) (s' : Shared), CX [] H s₁ (fun _ _ _ => False) e s' → False) :
    codeAny (model P w) callerA (.call (.ref fa) ⟨[.ref a], []⟩) (fun r s' => r = .ok (.ret (.bool true)) ∧ OldK s₁.heap s'.heap ∧ s'.os = s₁.os ∧ AllBare s'.gens) s₁ := by
  have rv := vals_ints hi
  have lenV := hi.length
  have core : ∀ H : Hp, (∀ b, H b = none ∨ (b = a ∧ ∃ o ys, H b = some (.frz o (.lst ys))) ∨ ∃ p : Addr × Addr, p ∈ cs ∧ p.2 = b ∧ H b = some (.tbl #[])) → (∀ p : Addr × Addr, p ∈ cs → H p.2 = some (.tbl #[])) → SqL K H a (ns.map V.int) → HOk P w H s₁.heap → (H a ≠ none → List.lookup a K = none) → codeAny (model P w) callerA (.call (.ref fa) ⟨[.ref a], []⟩) (fun r s' => r = .ok (.ret (.bool true)) ∧ OldK s₁.heap s'.heap ∧ s'.os = s₁.os ∧ AllBare s'.gens) s₁ := fun H hO hTb hS hok hK => by
    have base_of : ∀ {b : Addr} {o : Obj}, s₁.heap.get? b = some o → H b = none → (hidT s₁.heap H).get? b = some o := fun e n => hidT_get e n
    -- an object that is neither the list nor a table is not tracked
    have free : ∀ {b : Addr} {o : Obj}, s₁.heap.get? b = some o → (o.cls ≠ .type "list" ∨ ∀ z n, o.data ≠ .seq z n) → (o.cls ≠ .none ∨ ∀ z, o.data ≠ .fields z) → H b = none := fun {b o} e h1 h2 => by
      rcases hO b with q | ⟨rfl, _⟩ | ⟨p, hp, rfl, _⟩
      · exact q
      · rw [ha] at e; cases e
        rcases h1 with h1 | h1
        · exact absurd rfl h1
        · exact absurd rfl (h1 _ _)
      · rw [hT p hp] at e; cases e
        rcases h2 with h2 | h2
        · exact absurd rfl h2
        · exact absurd rfl (h2 _)
    have noA : ∀ {b : Addr} {o : Obj} {es : Array DictEntry} {ep : Nat}, s₁.heap.get? b = some o → o.data = .dict es ep → H b = none := fun {b o es ep} e d => free e (.inr fun z n h => by rw [d] at h; cases h) (.inr fun z h => by rw [d] at h; cases h)
    have nsK : ∀ {b : Addr} {m : Str → Option Value}, s₁.heap.Ns b m → (hidT s₁.heap H).Ns b m := fun ⟨o, es, ep, e, d, r⟩ => ⟨o, es, ep, base_of e (noA e d), d, r⟩
    have hKb : K.In (hidT s₁.heap H) := fun b o e => base_of (KX b o e) (by
      rcases hO b with q | ⟨rfl, o2, ys, q⟩ | ⟨p, hp, rfl, _⟩
      · exact q
      · have := hK (by rw [q]; exact fun z => nomatch z)
        rw [this] at e; cases e
      · rw [nT p hp] at e; cases e)
    have hM : Mod K mg (hidT s₁.heap H) := ⟨hKb, nsK hns, ⟨mb, nsK hb, hbb⟩, by
      obtain ⟨mc, h1, h2⟩ := hlim
      exact ⟨mc, nsK h1, h2⟩⟩
    have hTab : ∀ p : Addr × Addr, p ∈ cs → LamX.TabB (hidT s₁.heap H) mg p.1 p.2 := fun p hp => by
      obtain ⟨o, us, file, tf, flags, tg, inF, text, tt, h1, h2, h3, h4⟩ := C p hp
      obtain ⟨bm, ob, g1, g2, g3, g4, g5, g6⟩ := bmain
      obtain ⟨og, eg, pg, m1, m2, m3⟩ := hns
      refine ⟨⟨o, us, file, tf, flags, tg, inF, text, tt, base_of h1 (free h1 (.inl (by rw [h2]; decide)) (.inl (by rw [h2]; exact fun z => nomatch z))), h2, h3, h4⟩, ⟨bm, ob, g1, g2, ?_, ?_, base_of g3 (free g3 (.inr fun z n h => by rw [g6] at h; cases h) (.inr fun z h => by rw [g6] at h; cases h)), g4, g5, g6⟩, ?_⟩
      · intro z; subst z; rw [g3] at m1; cases m1; rw [g6] at m2; cases m2
      · intro z; rw [z, hT p hp] at g3; cases g3; cases g4
      · intro z; rw [z, hT p hp] at m1; cases m1; cases m2
    have e0 : Env0 P w K mg (hidT s₁.heap H) callerA [] s₁ H := ⟨rfl, hM, fun b o e => of_hidT e, Nat.le_of_eq (hidT_size s₁.heap H), trivial, fun b hb => absurd hb (by simp [frs]), hok, AllBare.of_eq hg⟩
    refine codeAny_mono ((F (hidT s₁.heap H) hKb (nsK hns) hTab).run callerA [] s₁ H ⟨[.ref a], []⟩ [.ref a] [.ref a] (fun v _ => v = .bl true) (fun _ _ _ => False) rfl hr e0 (hbind s₁ (.ref a)) (.cons rfl .nil) (hsp H hTb hS)) fun r s' h => ?_
    cases r with
    | error e => exact (hCX H e s' h).elim
    | ok fl =>
      cases fl with
      | next => exact h.elim
      | brk => exact h.elim
      | cont => exact h.elim
      | ret u =>
        obtain ⟨v, H', os, bare, un, hok', r', rfl⟩ := h
        cases r'
        refine ⟨rfl, ⟨fun b o e => ?_, fun b o e => un.there b o e (by simp)⟩, os, bare⟩
        rcases hO b with q | ⟨rfl, ob, ys, z⟩ | ⟨p, hp, rfl, z⟩
        · exact .inl (un.keep b o e q (fun z => absurd z (by simp [frs])) (by simp))
        · have z2 := un.frzs b ob _ z
          have e1 := (hok b _ z).1
          have e2 := (hok' b _ z2).1
          rw [e] at e1
          cases e1
          exact .inl e2
        · obtain ⟨more, z2⟩ := un.tbls p.2 #[] z
          have e2 : s'.heap.get? p.2 = some { cls := .none, data := .fields (#[] ++ more) } := hok' p.2 _ z2
          rw [hT p hp] at e
          cases e
          obtain ⟨o, us, file, tf, flags, tg, inF, text, tt, h1, h2, h3, h4, _⟩ := C p hp
          exact .inr (.inl ⟨⟨p.1, o, us, h1, h2, h3, h4⟩, rfl, #[], more, rfl, e2⟩)
  have aN : ∀ p : Addr × Addr, p ∈ cs → p.2 ≠ a := fun p hp z => by
    have := hT p hp
    rw [z, ha] at this
    cases this
  cases hk : List.lookup a K with
  | none =>
    refine core (fun b => if b ∈ cs.map (·.2) then some (.tbl #[]) else if b = a then some (.frz { cls := .type "list", data := .seq vs.toArray } (.lst (ns.map V.int))) else none) (fun b => ?_) (fun p hp => if_pos (List.mem_map.mpr ⟨p, hp, rfl⟩)) (.inl (.inr ⟨({ cls := .type "list", data := .seq vs.toArray } : Obj), ?_⟩)) (fun b u z => ?_) (fun _ => hk)
    · by_cases h1 : b ∈ cs.map (·.2)
      · obtain ⟨p, hp, e⟩ := List.mem_map.mp h1
        exact .inr (.inr ⟨p, hp, e, if_pos h1⟩)
      · by_cases h2 : b = a
        · exact .inr (.inl ⟨h2, _, _, (if_neg h1).trans (if_pos h2)⟩)
        · exact .inl ((if_neg h1).trans (if_neg h2))
    · have h1 : ¬ a ∈ cs.map (·.2) := fun z => by
        obtain ⟨p, hp, e⟩ := List.mem_map.mp z
        exact aN p hp e
      exact (if_neg h1).trans (if_pos rfl)
    · by_cases h1 : b ∈ cs.map (·.2)
      · have z := (if_pos h1).symm.trans z
        cases z
        obtain ⟨p, hp, e⟩ := List.mem_map.mp h1
        subst e
        exact hT p hp
      · by_cases h2 : b = a
        · have z := ((if_neg h1).trans (if_pos h2)).symm.trans z
          cases z
          subst h2
          exact ⟨ha, by rw [List.length_map]; exact hl, vs, 0, rv, ha⟩
        · have z := ((if_neg h1).trans (if_neg h2)).symm.trans z
          cases z
  | some o =>
    have e := KX a o hk
    rw [ha] at e
    cases e
    refine core (fun b => if b ∈ cs.map (·.2) then some (.tbl #[]) else none) (fun b => ?_) (fun p hp => if_pos (List.mem_map.mpr ⟨p, hp, rfl⟩)) (.inr ⟨_, vs.toArray, 0, hk, rfl, rfl, rfl, by rw [List.size_toArray, lenV]; exact hl, rv⟩) (fun b u z => ?_) (fun z => ?_)
    · by_cases h1 : b ∈ cs.map (·.2)
      · obtain ⟨p, hp, e⟩ := List.mem_map.mp h1
        exact .inr (.inr ⟨p, hp, e, if_pos h1⟩)
      · exact .inl (if_neg h1)
    · by_cases h1 : b ∈ cs.map (·.2)
      · have z := (if_pos h1).symm.trans z
        cases z
        obtain ⟨p, hp, e⟩ := List.mem_map.mp h1
        subst e
        exact hT p hp
      · have z := (if_neg h1).symm.trans z
        cases z
    · by_cases h1 : a ∈ cs.map (·.2)
      · obtain ⟨p, hp, e⟩ := List.mem_map.mp h1
        exact (aN p hp e).elim
      · exact (z (if_neg h1)).elim
end
def LawAtG (l : PySem.W.OpenLaw) (w : World) (K : PySem.W.Frag) (CX : CXT) (k n : Nat) (x : Str) (mg : Str → Option Value) (fa : Addr) (h : Heap) : Prop :=
  ∃ (fd : FuncData) (cs : List (Addr × Addr)) (sp : Sp), (∀ p : Addr × Addr, p ∈ cs → h.get? p.2 = some { cls := .none, data := .fields #[] }) ∧ (∀ p : Addr × Addr, p ∈ cs → List.lookup p.2 K = none) ∧ (∀ p : Addr × Addr, p ∈ cs → PySem.W.CodeHd h p.1 p.2) ∧
    (∀ (s : Shared) (u : Value), BindsTo s fd ⟨[u], []⟩ [(x, u)]) ∧
    (∀ (H : Hp) (a : Addr) (ns : List Int), ns.length ≤ n → (∀ z ∈ ns, Builtin.Int.intBits z ≤ 1048576) → (∀ p : Addr × Addr, p ∈ cs → H p.2 = some (.tbl #[])) → SqL K H a (ns.map V.int) → sp [.ref a] H (fun v _ => v = .bl true) fun _ _ _ => False) ∧
    ∀ base : Heap, K.In base → base.Ns mainGlobals mg → (∀ p : Addr × Addr, p ∈ cs → LamX.TabB base mg p.1 p.2) → FnOkG l.prog w K mg base CX k fa fd [x] sp
theorem walk_ofGT {l : PySem.W.OpenLaw} {n k : Nat} {q : Program} {loose : List Str} {XP : (Str → Option Value) → Heap → Prop} {YP : World → Heap → Prop} {d : DefRec} {CX : World → CXT} {x : Str}
    (hn : l.most = some n) (hn2 : n ≤ sizeLine) (hdf : d.params.defaults = []) (hr : Room k callerA)
    (F : ∀ (w : World) (mg : Str → Option Value) (fa : Addr) (h : Heap), YP w h → h.Ns mainGlobals mg → mg d.name = some (.ref fa) → ∃ K : PySem.W.Frag, K.In h ∧ LawAtG l w K (CX w) k n x mg fa h)
    (hCX : ∀ (w : World) (H : Hp) (s : Shared) (e : Value) (s' : Shared), CX w [] H s (fun _ _ _ => False) e s' → False) :
    PySem.W.WalkO q loose XP YP l.row.toRowW d [] (fun f vs => PySem.call f vs) :=
  Att.attach_callB hn hdf fun w s₀ s₁ mg mb fa o pm cd doc a vs ns G Y ho hd hcd hmg hobj hints hlen hbits hg => by
    obtain ⟨K, KX, fd, cs, sp, hT, nT, C, hb, hsp, hF⟩ := F w mg fa s₁.heap Y G.T.g hmg
    exact law_callGT KX G.T.g G.T.b G.T.builtins G.T.nolimit hg hT nT C G.T.bmain hobj hints (Nat.le_trans hlen hn2) hr hF hb (fun H hH hS => hsp H a ns hlen hbits hH hS) fun H e s' => hCX w H s₁ e s'
end Far
/-! Methods with a default, asked without it; defs with defaults. -/
namespace Far
open PySem L2 PySem.Spec PyProof.Rows
abbrev FunDf (K : PySem.W.Frag) (x qual : Str) (st : Stmt) (f : Addr) (fd : FuncData) (dvs : List V) : Prop := FunD K x qual (defArgs st) (defBody st) (defScope st) dvs [] f fd
section
variable {P : Program} {w : World} {K : PySem.W.Frag} {mg : Str → Option Value} {base : Heap}
theorem ok_defXD {x qual : Str} {st : Stmt} {f : Addr} {fd : FuncData} {dvs : List V} {N ps : List Str} {k : Nat} {R : List D → Out → Prop} {t : WX → TS} (F : FunDf K x qual st f fd dvs) (S : FnScope N ps (defScope st)) (hl : ∀ xs out, R xs out → xs.length = ps.length)
    (hd : ∀ (cdv : Value) (A : Around) (outer : List Env) (s : Shared) (H : Hp) (E : XK), Room k (A.deeper (envOfC qual (defScope st) s.heap.objs.size f cdv)) → PSs (cxOf (L2.CX P w) P w K mg base N qual (defScope st) f cdv A outer s H E) (defBody st) (t fun cls d _ H => E cls d H))
    (hs : ∀ (E : WX) xs out, R xs out → SDef K E (t E) (slots N.length xs) out) : FnOk P w K mg base (L2.CX P w) (k + 1) f fd ps (spD K R) :=
  F.ok S (spD_len hl) fun cdv A outer s H vs Q E hr h => ⟨t _, hd cdv A outer s H E hr, body_run h (hs _)⟩
end
theorem fund_mk {K : PySem.W.Frag} {x qual : Str} {st : Stmt} {f T : Addr} {oc : Value} {od an : Option Addr} {osl : Array (Option Value)} {kV doc pm cdv ct : Value} {o : Obj} {n : Nat}
    (h : List.lookup f K = some { cls := oc, dict := od, data := .func (PySem.W.fnOf x qual (defArgs st) (defBody st) (defScope st) (.ref T) kV doc pm an cdv ct), slots := osl }) (hc : PySem.W.codeIn K cdv qual = true) (hk : PySem.W.keepIn K (.ref f) = true)
    (hT : List.lookup T K = some o) (hd : o.data = .seq #[.none] n) : FunDf K x qual st f (PySem.W.fnOf x qual (defArgs st) (defBody st) (defScope st) (.ref T) kV doc pm an cdv ct) [.non] :=
  ⟨⟨oc, od, _, kV, doc, pm, an, cdv, ct, osl, rfl, h, hc, .inr ⟨by simp, T, o, [.none], n, rfl, hT, hd, .cons rfl .nil⟩, .inl rfl⟩, hk⟩
/-- all arguments told, the last one by its default None -/
theorem FunDf.all {K : PySem.W.Frag} {x qual : Str} {st : Stmt} {f : Addr} {fd : FuncData} {ps : List Str} (F : FunDf K x qual st f fd [.non])
    (h : ∀ (T : Addr) (kV doc pm : Value) (an : Option Addr) (cdv ct : Value) (us its : List Value), us.length = ps.length → its.length = 1 → ∃ k, bindArgs (PySem.W.fnOf x qual (defArgs st) (defBody st) (defScope st) (.ref T) kV doc pm an cdv ct) { pos := us } = seqItems? (.ref T) >>= k ∧ k (some its.toArray) = pure (ps.zip (us ++ its.drop 1))) : Binds K fd ps [] := by
  obtain ⟨ds, h1, h2⟩ := FunD.binds1 F ps.length 1 (by simp) (by simp) (fun T kV doc pm an cdv ct us its l1 l2 => h T kV doc pm an cdv ct us its l1 (by simpa using l2))
  cases h1
  exact h2
theorem FunDf.one {K : PySem.W.Frag} {x qual : Str} {st : Stmt} {f : Addr} {fd : FuncData} {ps : List Str} {m : Nat} (F : FunDf K x qual st f fd [.non]) (hm : m + 1 = ps.length)
    (h : ∀ (T : Addr) (kV doc pm : Value) (an : Option Addr) (cdv ct : Value) (us its : List Value), us.length = m → its.length = 1 → ∃ k, bindArgs (PySem.W.fnOf x qual (defArgs st) (defBody st) (defScope st) (.ref T) kV doc pm an cdv ct) { pos := us } = seqItems? (.ref T) >>= k ∧ k (some its.toArray) = pure (ps.zip (us ++ its.drop 0))) : Binds K fd ps [.none] := by
  obtain ⟨ds, h1, h2⟩ := FunD.binds1 F m 0 (by simp) (by simpa using hm) (fun T kV doc pm an cdv ct us its l1 l2 => h T kV doc pm an cdv ct us its l1 (by simpa using l2))
  cases h1 with
  | cons a b =>
    cases b
    have e : _ = Value.none := a
    subst e
    exact h2
/-- o.m() where m has one parameter more, None if nothing is told -/
def tMethN (C : Addr) (m : Str) (sp : Sp) (E : L2.St → XK) (ta : TE) : TE := fun σ H Q => ta σ H fun x H1 => ∃ a dx fs, x = .ref a ∧ H1 a = some (.ins C dx fs) ∧ fs.lookup m = none ∧ sp [x, .non] H1 Q (E σ)
theorem pe_methN {X : Cx} {CX : CXT} {k : Nat} {f C : Addr} {fd : FuncData} {ps : List Str} {sp : Sp} {E : L2.St → XK} {m : Str} {pos apos : Pos} {o : Expr} {ta : TE} {pl : Sem Bool} (he : PE X o ta) (c : Cls X.K C) (hm : Meth X.K C m f) (F : FnOk X.prog X.w X.K X.mg X.base CX k f fd ps sp) (hr : Room k X.A) (hb : Binds X.K fd ps [.none]) (hx : ∀ σ, Passes CX X (E σ))
    (ht : eval (.Call (.Attribute o m apos) [] [] pos) X.env = (do
      let ov ← eval o X.env
      standAt apos.atName
      let (f, first) ← holding [ov] (getMethod ov m pl)
      callWith pos f first (backTo pos (starEach [] X.env)) (backToKw pos (keywordEach [] X.env))) := by rfl) :
    PE X (.Call (.Attribute o m apos) [] [] pos) (tMethN C m sp E ta) := by
  refine ⟨fun pins s σ H Q I h => ?_⟩
  refine PySem.W.methodCall_KW (pl := pl) (thn (he.run pins s σ H _ I h) fun u s1 ⟨x, H1, I1, rx, a, dx, fs, ex, ea, l, q⟩ => ?_) ht
  subst ex
  obtain rfl : u = Value.ref a := rx
  refine getmeth_ok I1 ea c hm l ?_
  exact PySem.W.callWith_K0 (first := [.ref a]) I1.kIn hm.kp (run_fn (us := [.ref a]) (vs := [.ref a]) (dvs := [.non]) (ds := [.none]) F hr hb (.cons rfl .nil) (hx σ) I1 (.cons rfl .nil) q)
section
variable {K : PySem.W.Frag} {δ : List S} {ta : TE} {C : Addr} {fs : List (Str × D)} {s : S}
theorem ev_methN {R : List D → Out → Prop} {E : L2.St → XK} {m : Str} (h0 : EV K ta δ (.d (.ins C fs))) (hm : fs.lookup m = none) (hr : R [.ins C fs, .non] (.ret s)) : EV K (tMethN C m (spD K R) E ta) δ s := by
  intro He Ge H τo τs σ hl ok Q q
  refine h0 He Ge H τo τs σ hl ok _ fun v H1 ok1 => ?_
  obtain ⟨G1, ok1⟩ := ok1
  obtain ⟨_, e1, r1⟩ := ok1.top
  cases e1
  cases r1 with
  | ins hp rf => exact ⟨_, _, _, rfl, ok1.gh _ _ hp, rf.nolook hm, sp_ret ok1.pop (.cons (.ins hp rf) (.cons .non .nil)) hr q⟩
end
section
variable {Hy : PySem.W.Frag → Prop} {δ : List S}
def SE.methN (C : Addr) (m : Str) (F : List D → M S) (o : SE Hy) : SE Hy where
  t K W := tMethN C m (spD K (RF F)) (fun _ => E0) (o.t K W)
  f δ := (o.fd δ).bin fun x => if ofC C m x = true then (F [x, .non]).bin .ok else .no
  ok K hk W δ := by
    cases h : o.fd δ with
    | ok x =>
      rw [M.ok_bin]
      by_cases z : ofC C m x = true
      · rw [if_pos z]
        obtain ⟨fs, rfl, hm⟩ := ofC_to z
        cases h2 : F [.ins C fs, .non] with
        | ok s => exact ev_methN (o.okD hk h) hm (.inl ⟨s, h2, rfl⟩)
        | _ => trivial
      · rw [if_neg z]; trivial
    | _ => trivial
@[simp] theorem SE.methN_f (C : Addr) (m : Str) (F : List D → M S) (o : SE Hy) : (SE.methN C m F o).f δ = (o.fd δ).bin fun x => if ofC C m x = true then (F [x, .non]).bin .ok else .no := (rfl)
def STX.tst (e : SX Hy) : STX Hy where
  t K W := tTest (e.t K W)
  f δ := (e.f δ).bin fun s δ1 => (MX.ofM (toD s) δ1).bin fun x δ1 => match x with | .bl b => .ok b δ1 | _ => .no
  ok K hk W δ := by
    cases h : e.f δ with
    | ok s δ1 =>
      simp only [MX.ok_bin]
      cases h2 : toD s with
      | ok x =>
        simp only [MX.ofM_ok, MX.ok_bin]
        cases x with
        | bl b => exact ebx_test (evx_toD (e.okS hk h) h2)
        | _ => trivial
      | _ => trivial
    | _ => trivial
@[simp] theorem STX.tst_f (e : SX Hy) : (STX.tst e).f δ = (e.f δ).bin fun s δ1 => (MX.ofM (toD s) δ1).bin fun x δ1 => match x with | .bl b => .ok b δ1 | _ => .no := (rfl)
end
end Far
/-! a tuple that holds a list of one's own, handed back and kept as data. -/
namespace Far
open PySem L2
section
variable {K : PySem.W.Frag} {He Ge H G : Hp} {σ : St} {δ : List S}
theorem OKG.addT {p : Addr} {o : Obj} {ws : List V} (h : OKG K He Ge H G σ δ) (hep : He p = none) (hp : H p = some (.frz o (.tup ws))) : ∃ G', Ex G G' ∧ G' p = some (.frz o (.tup ws)) ∧ OKG K He Ge H G' σ δ := by
  cases hG : G p with
  | some u =>
    refine ⟨G, .refl _, ?_, h⟩
    cases u with
    | tbl ps => obtain ⟨ps', e⟩ := h.gh.tb p ps hG; rw [hp] at e; cases e
    | _ => rw [hG, ← hp]; exact (h.gh.nt p _ hG rfl).symm
  | none =>
    refine ⟨upd G p (.frz o (.tup ws)), .new hG, upd_same, OKG.mk (h.ge.trans (.new hG)) ⟨fun a u e n => ?_, fun a ps e => ?_⟩ h.he ⟨?_, h.nc.t0, h.nc.tb.mono (fun _ _ e => e) (.new hG)⟩ ?_ h.ne⟩
    · by_cases q : a = p
      · subst q; rw [upd_same] at e; cases e; exact hp
      · rw [upd_ne q] at e; exact h.gh.nt a u e n
    · by_cases q : a = p
      · subst q; rw [upd_same] at e; cases e
      · rw [upd_ne q] at e; exact h.gh.tb a ps e
    · intro b q1 q2
      have q : b ≠ p := fun z => q1 (by rw [z]; exact hep)
      rw [upd_ne q]; exact h.nc b q1 q2
    · intro i s q
      obtain ⟨o', e, k⟩ := h.sl i s q
      refine ⟨o', e, ?_⟩
      cases s with
      | un => trivial
      | ot _ _ _ => trivial
      | d x => obtain ⟨v, e1, r'⟩ := k; exact ⟨v, e1, r'.mono (.new hG)⟩
      | own ys =>
        obtain ⟨p', vs', rfl, k1, k2, k3, r'⟩ := k
        have ne : p' ≠ p := fun z => by rw [z, hp] at k3; cases k3
        exact ⟨p', vs', rfl, k1, by rw [upd_ne ne]; exact k2, k3, r'.mono (.new hG)⟩
      | okd ys =>
        obtain ⟨p', vs', rfl, k1, k2, k3, r'⟩ := k
        have ne : p' ≠ p := fun z => by rw [z, hp] at k3; cases k3
        exact ⟨p', vs', rfl, k1, by rw [upd_ne ne]; exact k2, k3, r'.mono (.new hG)⟩
      | oko ys =>
        obtain ⟨p', vs', rfl, k1, k2, k3⟩ := k
        have ne : p' ≠ p := fun z => by rw [z, hp] at k3; cases k3
        exact ⟨p', vs', rfl, k1, by rw [upd_ne ne]; exact k2, k3⟩
      | ob q' C fs =>
        obtain ⟨a, dx, gs, rfl, kq, k1, k2, k3, k4, k5, k6, r'⟩ := k
        have n1 : a ≠ p := fun z => by rw [z, hp] at k5; cases k5
        have n2 : dx ≠ p := fun z => by rw [z, hp] at k6; cases k6
        exact ⟨a, dx, gs, rfl, kq, k1, by rw [upd_ne n1]; exact k2, k3, by rw [upd_ne n2]; exact k4, k5, k6, r'.mono (.new hG)⟩
theorem own_apart {q : Addr} {us : List V} (ok : OKG K He Ge H G σ δ) {H0 : Hp} (h1 : H0 q = none) (k0 : ∀ (j : Nat) (t : S) (p : Addr), δ[j]? = some t → owned t = true → σ[j]? = some (some (.ref p)) → H0 p ≠ none) : ∀ (j : Nat) (t : S), δ[j]? = some t → owned t = true → σ[j]? ≠ some (some (.ref q)) := fun j t ej ho eq => k0 j t q ej ho eq h1
theorem own_there (ok : OKG K He Ge H G σ δ) : ∀ (j : Nat) (t : S) (p : Addr), δ[j]? = some t → owned t = true → σ[j]? = some (some (.ref p)) → H p ≠ none := fun j t p ej ho eq z => by
  obtain ⟨o, eo, kk⟩ := ok.sl j t ej
  rw [eo] at eq
  cases eq
  cases t with
  | un => cases ho
  | ot _ _ _ => cases ho
  | d x => cases ho
  | own zs => obtain ⟨p', vs', e, _, _, z3, _⟩ := kk; cases e; rw [z] at z3; cases z3
  | okd zs => obtain ⟨p', vs', e, _, _, z3, _⟩ := kk; cases e; rw [z] at z3; cases z3
  | oko zs => obtain ⟨p', vs', e, _, _, z3⟩ := kk; cases e; rw [z] at z3; cases z3
  | ob q C fs => obtain ⟨a, dx, gs, e, _, _, _, _, _, z5, _⟩ := kk; cases e; rw [z] at z5; cases z5
theorem rpl_mid {G : Hp} {A B : List D} {y : D} {u : V} : ∀ {A : List D} {vs ws : List V}, RpL K G A vs → Rp K G y u → RpL K G B ws → RpL K G (A ++ y :: B) (vs ++ u :: ws)
  | _, _, _, .nil, r, rb => .cons r rb
  | _, _, _, .cons r0 ra, r, rb => .cons r0 (rpl_mid (A := A) ra r rb)
theorem OKG.freezeT {A xs B : List D} {v : V} {H0 : Hp} (ok : OKG K He Ge H G σ δ) (he : Ex He H0) (hk : ∀ (j : Nat) (t : S) (p : Addr), δ[j]? = some t → owned t = true → σ[j]? = some (some (.ref p)) → H0 p ≠ none) (ot : OtOk K H0 G H A xs B v) : ∃ G', OKG K He Ge H G' (some v :: σ) (.d (.tup (A ++ .lst xs :: B)) :: δ) := by
  obtain ⟨p, q, as, us, bs, rfl, ⟨hp0, o, sq, hc, hd⟩, ra, rb, h1, h2, h3, ru⟩ := ot
  have ok1 : OKG K He Ge H G (some (.ref q) :: σ) (.own xs :: δ) := ok.push ⟨q, us, rfl, he.none h1, h2, h3, ru⟩ fun _ j t p e hj ho eσ => by
    cases e; exact hk j t q hj ho eσ h1
  obtain ⟨G1, e1, ok2⟩ := ok1.freezeX
  obtain ⟨_, e2, r2⟩ := ok2.top
  cases e2
  obtain ⟨G2, e3, hg, ok3⟩ := ok2.pop.addT (he.none hp0) sq
  exact ⟨G2, ok3.pushD (.tup (.inl ⟨o, hg, hc, hd⟩) (rpl_mid (A := A) ((ra.mono e1).mono e3) (r2.mono e3) ((rb.mono e1).mono e3)))⟩
theorem ev_callT {R : List D → Out → Prop} {E : XK} {tr : TA} {ys A xs B : List D} (h : EA K tr δ ys) (hr : R ys (.ret (.ot A xs B))) : EV K (tCall (spD K R) [] E tr) δ (.d (.tup (A ++ .lst xs :: B))) := by
  intro He Ge H τo τs σ hl ok Q q
  refine h He Ge H τo τs σ hl ok _ fun vs H1 G ok1 r1 => ?_
  refine ⟨G, ys, .ret (.ot A xs B), ⟨ok1.gh, ok1.nc.tb⟩, by simpa using r1, hr, fun v s' G' H' e g1 g2 g3 nc k ot => ?_, fun c fs cls d G' H' e => nomatch e⟩
  cases e
  obtain ⟨G2, ok2⟩ := (ok1.grow g3 g1 g2 nc).freezeT ok1.he (own_there ok1) ot
  exact q v H' ⟨G2, ok2⟩
end
section
variable {Hy : PySem.W.Frag → Prop}
def frzT (s : S) : M S := match s with | .ot A xs B => .ok (.d (.tup (A ++ .lst xs :: B))) | _ => .no
variable {δ : List S}
def SE.callT (F : List D → M S) (a : SA Hy) : SE Hy where
  t K W := tCall (spD K (RF F)) [] E0 (a.t K W)
  f δ := (a.f δ).bind fun xs => (F xs).bin frzT
  ok K hk W δ := by
    cases h : a.f δ with
    | no => trivial
    | ex c fs => exact ex_callL (a.exA hk h)
    | ok xs =>
      rw [M.ok_bind]
      cases h2 : F xs with
      | ok s =>
        rw [M.ok_bin]
        cases s with
        | ot A ys B => exact ev_callT (a.okA hk h) (.inl ⟨_, h2, rfl⟩)
        | _ => trivial
      | _ => trivial
@[simp] theorem SE.callT_f (F : List D → M S) (a : SA Hy) : (SE.callT F a).f δ = (a.f δ).bind fun xs => (F xs).bin frzT := (rfl)
@[simp] theorem frzT_ot {A xs B : List D} : frzT (.ot A xs B) = .ok (.d (.tup (A ++ .lst xs :: B))) := (rfl)
end
end Far
/-! list displays and comprehensions whose parts change an object of one's own. -/
namespace Far
open PySem L2
section
variable {K : PySem.W.Frag} {He Ge H G : Hp} {σ : L2.St} {δ : List S}
theorem OKG.move {a b : Nat} {s : S} (h : OKG K He Ge H G σ δ) (ha : a < δ.length) (hb : δ[b]? = some s) (es : σ[a]? = σ[b]?) (hab : a ≠ b) : OKG K He Ge H G σ ((δ.set b .un).set a s) where
  ge := h.ge
  gh := h.gh
  he := h.he
  nc := h.nc
  sl := fun i t q => by
    obtain ⟨o, eo, k⟩ := h.sl b s hb
    by_cases q1 : a = i
    · subst q1
      rw [List.getElem?_set_self (by rw [List.length_set]; exact ha)] at q; cases q
      exact ⟨o, by rw [es]; exact eo, k⟩
    · rw [List.getElem?_set_ne q1] at q
      by_cases q2 : b = i
      · subst q2
        rw [List.getElem?_set_self (List.getElem?_eq_some_iff.mp hb).1] at q; cases q
        exact ⟨o, eo, trivial⟩
      · rw [List.getElem?_set_ne q2] at q
        exact h.sl i t q
  ne := fun i j u t p hij hi hj o1 o2 e1 e2 => by
    have key : ∀ (i : Nat) (u : S), ((δ.set b .un).set a s)[i]? = some u → owned u = true → ∃ i', δ[i']? = some u ∧ (σ[i]? = σ[i']?) ∧ ((i = a ∧ i' = b) ∨ (i ≠ a ∧ i ≠ b ∧ i' = i)) := fun i u hi ho => by
      by_cases q1 : a = i
      · subst q1
        rw [List.getElem?_set_self (by rw [List.length_set]; exact ha)] at hi; cases hi
        exact ⟨b, hb, es, .inl ⟨rfl, rfl⟩⟩
      · rw [List.getElem?_set_ne q1] at hi
        by_cases q2 : b = i
        · subst q2
          rw [List.getElem?_set_self (List.getElem?_eq_some_iff.mp hb).1] at hi; cases hi
          cases ho
        · rw [List.getElem?_set_ne q2] at hi
          exact ⟨i, hi, rfl, .inr ⟨fun z => q1 z.symm, fun z => q2 z.symm, rfl⟩⟩
    obtain ⟨i', a1, a2, a3⟩ := key i u hi o1
    obtain ⟨j', b1, b2, b3⟩ := key j t hj o2
    refine h.ne i' j' u t p (fun z => ?_) a1 b1 o1 o2 (by rw [← a2]; exact e1) (by rw [← b2]; exact e2)
    omega
theorem OKG.swapIn {A : L2.St} {B : List S} {σ2 : L2.St} {n j : Nat} {R : List S} {s : S} (ok : OKG K He Ge H G ((A ++ σ) ++ σ2) ((B ++ (δ ++ List.replicate n .un)) ++ R)) (hl : A.length = B.length) (hL : (A ++ σ).length = (B ++ (δ ++ List.replicate n S.un)).length) (hj : δ[j]? = some s) (jr : j < R.length) (e : σ[j]? = σ2[j]?) :
    OKG K He Ge H G ((A ++ σ) ++ σ2) ((B ++ (δ.set j .un ++ List.replicate n .un)) ++ R.set j s) := by
  have jd := (List.getElem?_eq_some_iff.mp hj).1
  have b1 : B.length + j < (B ++ (δ ++ List.replicate n S.un)).length := by simp only [List.length_append]; omega
  have js : j < σ.length := by
    simp only [List.length_append, List.length_replicate] at hL; omega
  have hb : ((B ++ (δ ++ List.replicate n S.un)) ++ R)[B.length + j]? = some s := by
    rw [List.getElem?_append_left b1, List.getElem?_append_right (Nat.le_add_right ..), Nat.add_sub_cancel_left, List.getElem?_append_left jd]; exact hj
  have es : ((A ++ σ) ++ σ2)[(B ++ (δ ++ List.replicate n S.un)).length + j]? = ((A ++ σ) ++ σ2)[B.length + j]? := by
    rw [← hL, List.getElem?_append_right (Nat.le_add_right ..), Nat.add_sub_cancel_left, List.getElem?_append_left (by rw [hL]; exact b1), ← hl, List.getElem?_append_right (Nat.le_add_right ..), Nat.add_sub_cancel_left, e]
  have z := ok.move (a := (B ++ (δ ++ List.replicate n S.un)).length + j) (b := B.length + j) (s := s) (by simp only [List.length_append] at b1 ⊢; omega) hb es (by omega)
  rw [List.set_append_left _ _ b1, List.set_append_right _ _ (Nat.le_add_right ..), Nat.add_sub_cancel_left, List.set_append_left _ _ jd] at z
  have len : (B ++ (δ.set j S.un ++ List.replicate n S.un)).length = (B ++ (δ ++ List.replicate n S.un)).length := by simp
  rw [List.set_append_right _ _ (by rw [len]; exact Nat.le_add_right ..), len, Nat.add_sub_cancel_left] at z
  exact z
theorem OKG.swapOut {A : L2.St} {B : List S} {σ2 : L2.St} {n j : Nat} {R : List S} {s : S} (ok : OKG K He Ge H G ((A ++ σ) ++ σ2) ((B ++ (δ ++ List.replicate n .un)) ++ R)) (hl : A.length = B.length) (hL : (A ++ σ).length = (B ++ (δ ++ List.replicate n S.un)).length) (hj : R[j]? = some s) (jd : j < δ.length) (e : σ[j]? = σ2[j]?) :
    OKG K He Ge H G ((A ++ σ) ++ σ2) ((B ++ (δ.set j s ++ List.replicate n .un)) ++ R.set j .un) := by
  have jr := (List.getElem?_eq_some_iff.mp hj).1
  have b1 : B.length + j < (B ++ (δ ++ List.replicate n S.un)).length := by simp only [List.length_append]; omega
  have hb : ((B ++ (δ ++ List.replicate n S.un)) ++ R)[(B ++ (δ ++ List.replicate n S.un)).length + j]? = some s := by
    rw [List.getElem?_append_right (Nat.le_add_right ..), Nat.add_sub_cancel_left]; exact hj
  have es : ((A ++ σ) ++ σ2)[(B ++ (δ ++ List.replicate n S.un)).length + j]? = ((A ++ σ) ++ σ2)[B.length + j]? := by
    rw [← hL, List.getElem?_append_right (Nat.le_add_right ..), Nat.add_sub_cancel_left, List.getElem?_append_left (by rw [hL]; exact b1), ← hl, List.getElem?_append_right (Nat.le_add_right ..), Nat.add_sub_cancel_left, e]
  have z := ok.move (a := B.length + j) (b := (B ++ (δ ++ List.replicate n S.un)).length + j) (s := s) (by simp only [List.length_append] at b1 ⊢; omega) hb es.symm (by omega)
  rw [List.set_append_right _ _ (Nat.le_add_right ..), Nat.add_sub_cancel_left, List.set_append_left _ _ b1, List.set_append_right _ _ (Nat.le_add_right ..), Nat.add_sub_cancel_left, List.set_append_left _ _ jd] at z
  exact z
theorem set_id {α : Type} {l : List α} {j : Nat} {s : α} (h : l[j]? = some s) : l.set j s = l := by
  refine List.ext_getElem? fun i => ?_
  by_cases q : j = i
  · subst q; rw [List.getElem?_set_self (List.getElem?_eq_some_iff.mp h).1, h]
  · rw [List.getElem?_set_ne q]
theorem hide_ob {vs : List Nat} {j : Nat} {q : Option Addr} {C : Addr} {fs fs' : List (Str × D)} (h : δ[j]? = some (.ob q C fs)) : hide (δ.set j (.ob q C fs')) vs = hide δ vs := by
  unfold hide
  rw [List.map_set, show hideS (.ob q C fs') = .un from rfl, set_id (by rw [List.getElem?_map, h]; rfl)]
theorem wipe_at {σ2 : L2.St} {vs : List Nat} {j : Nat} (e : wipe σ2 vs = wipe σ vs) (h : j ∉ vs) : σ2[j]? = σ[j]? := by
  have a := congrArg (fun l : L2.St => l[j]?) e
  simp only [wipe_get] at a
  rwa [if_neg (fun q => h q.1), if_neg (fun q => h q.1)] at a
theorem evx_lst {tr : TA} {xs : List D} {δ1 : List S} (h : EAX K tr δ xs δ1) (hz : xs.length ≤ sizeLine) : EVX K (tLst tr) δ (.own xs) δ1 := by
  intro He Ge H τo τs σ hl ok Q q
  refine h He Ge H τo τs σ hl ok _ fun vs H1 G ok1 r1 => ⟨by rw [← r1.length]; exact hz, fun p hp => ?_⟩
  exact q _ _ ⟨_, ok1.newOwn hp r1⟩
theorem evx_frz {te : TE} {xs : List D} {δ1 : List S} (h : EVX K te δ (.own xs) δ1) : EVX K te δ (.d (.lst xs)) δ1 := by
  intro He Ge H τo τs σ hl ok Q q
  refine h He Ge H τo τs σ hl ok _ fun v H' ⟨G', ok'⟩ => ?_
  obtain ⟨G2, ok2⟩ := ok'.freeze
  exact q v H' ⟨G2, ok2⟩
theorem evx_lc {ys : List D} {p : Nat → Bool} {f : Nat → D} {F : Nat → List (Str × D)} {q : Option Addr} {C : Addr} {j : Nat} {wi : TI} {v : Nat} {tt : TT} {te : TE} {vs : List Nat} (hi : EI K wi δ ys) (hg : v ∈ vs) (hz : ys.length ≤ sizeLine) (hj : δ[j]? = some (.ob q C (F 0))) (jv : j ∉ vs)
    (k : ∀ i y, ys[i]? = some y → ∃ δ2 δ3, ET K (gName v) ((hide δ vs).set j (.ob q C (F i))) y δ2 ∧ EBX K tt δ2 (p i) δ3 ∧ (p i = false → δ3[j]? = some (.ob q C (F (i + 1)))) ∧ (p i = true → ∃ δ4, EVX K te δ3 (.d (f i)) δ4 ∧ δ4[j]? = some (.ob q C (F (i + 1))))) :
    EVX K (tLc wi (gName v) tt te vs) δ (.own (((List.range ys.length).filter p).map f)) (δ.set j (.ob q C (F ys.length))) := by
  have jd := (List.getElem?_eq_some_iff.mp hj).1
  intro He Ge H τo τs σ hl ok Q qq
  refine hi He Ge H τo τs σ hl ok _ fun J H1 G ok1 jis => ?_
  intro Dp hD
  have okD := (ok1.newOwn (xs := []) (vs := []) hD .nil).ground
  refine ⟨fun i m H2 => i + m = ys.length ∧ OK K He G H2 (some (.ref Dp) :: (τo ++ σ)) (.own (((List.range i).filter p).map f) :: (τs ++ δ.set j (.ob q C (F i)))), ⟨ys.length, by omega, G, by rw [set_id hj]; exact okD⟩, fun i m H2 ⟨em, G2, ok2⟩ => ?_⟩
  obtain ⟨j1, j2, j3⟩ := jis H2 G2 ok2.ge ok2.gh
  rcases Nat.lt_or_ge i ys.length with hlt | hge
  · have ey : ys[i]? = some ys[i] := List.getElem?_eq_getElem hlt
    have tk : List.range (i + 1) = List.range i ++ [i] := List.range_succ
    refine .inr ⟨j1 i hlt, fun H3 => OK K He G H3 (some (.ref Dp) :: (τo ++ σ)) (.own (((List.range (i + 1)).filter p).map f) :: (τs ++ δ.set j (.ob q C (F (i + 1))))), fun H3 k3 => ⟨m - 1, by omega, by omega, k3⟩, fun x H3 hx => ?_⟩
    obtain ⟨G3, y, g1, g2, g3, g4, ey2, rv⟩ := j2 i x H3 hx hlt
    rw [ey] at ey2
    cases ey2
    replace ok2 := ok2.grow g1 g2 g3 (g4.ok ok2.nc.tb)
    obtain ⟨δ2, δ3, kt, kb, kf, ke⟩ := k i _ ey
    have hd : δ.length ≤ σ.length := by have := ok1.len; simp only [List.length_append] at this; omega
    have dl : (δ.set j (.ob q C (F i))).length = δ.length := List.length_set ..
    have okB := OKG.block (vs := vs) (τo := some (.ref Dp) :: τo) (τs := .own (((List.range i).filter p).map f) :: τs) (σ := σ) (δ := δ.set j (.ob q C (F i))) ok2 (by simp [hl])
    rw [dl, hide_ob hj] at okB
    have hA : (some (V.ref Dp) :: τo).length = (S.own (((List.range i).filter p).map f) :: τs).length := by simp [hl]
    have hL0 : ((some (V.ref Dp) :: τo) ++ σ).length = ((S.own (((List.range i).filter p).map f) :: τs) ++ (δ.set j (.ob q C (F i)) ++ List.replicate (σ.length - δ.length) S.un)).length := by
      simp only [List.length_append, List.length_cons, List.length_replicate, List.length_set]; omega
    have hL : ((some (V.ref Dp) :: τo) ++ σ).length = ((S.own (((List.range i).filter p).map f) :: τs) ++ (δ.set j S.un ++ List.replicate (σ.length - δ.length) S.un)).length := by
      simp only [List.length_append, List.length_cons, List.length_replicate, List.length_set]; omega
    have okC := OKG.swapIn okB hA hL0 (s := .ob q C (F i)) (j := j) (by rw [List.getElem?_set_self jd]) (by rw [hide_len]; exact jd) (by rw [wipe_get, if_neg (fun z => jv z.1)])
    rw [List.set_set] at okC
    have ok3 := kt He G H3 G3 _ _ (wipe σ vs) x hL okC rv (fun σ2 H4 => OKG K He G H4 G3 (((some (V.ref Dp) :: τo) ++ σ) ++ σ2) (((S.own (((List.range i).filter p).map f) :: τs) ++ (δ.set j .un ++ List.replicate (σ.length - δ.length) .un)) ++ δ2)) (fun σ2 ok => ok)
    have ew : wipe ((wipe σ vs).set v (some x)) vs = wipe σ vs := by rw [wipe_set hg, wipe_wipe]
    refine ⟨ew, ?_⟩
    change OKG K He G H3 G3 (((some (V.ref Dp) :: τo) ++ σ) ++ (wipe σ vs).set v (some x)) _ at ok3
    generalize (wipe σ vs).set v (some x) = σ2 at *
    · have e2 : σ[j]? = σ2[j]? := (wipe_at ew jv).symm
      refine kb He G H3 _ _ σ2 hL ⟨G3, ok3⟩ _ fun H4 ⟨G4, ok4⟩ => ?_
      cases hp : p i with
      | false =>
        refine iteF ?_
        have e : ((List.range (i + 1)).filter p).map f = ((List.range i).filter p).map f := by rw [tk, List.filter_append]; simp [hp]
        rw [e]
        have ok5 := OKG.swapOut ok4 hA hL (s := .ob q C (F (i + 1))) (j := j) (kf hp) (by rw [List.length_set]; exact jd) e2
        rw [List.set_set] at ok5
        exact ⟨G4, ok5.unblock (by simp only [List.length_append, List.length_cons, List.length_replicate, List.length_set]; omega)⟩
      | true =>
        obtain ⟨δ4, ke, k4⟩ := ke hp
        refine iteT (ke He G H4 _ _ σ2 hL ⟨G4, ok4⟩ _ fun w H5 ⟨G5, ok5⟩ => ?_)
        have ok5' := OKG.swapOut (A := some w :: (some (.ref Dp) :: τo)) (B := .d (f i) :: (S.own (((List.range i).filter p).map f) :: τs)) (σ := σ) (δ := δ.set j .un) ok5 (by simp [hl]) (by simp only [List.length_append, List.length_cons, List.length_replicate, List.length_set]; omega) (s := .ob q C (F (i + 1))) (j := j) k4 (by rw [List.length_set]; exact jd) e2
        rw [List.set_set] at ok5'
        have ok6 := OKG.unblock (τs := .d (f i) :: (S.own (((List.range i).filter p).map f) :: τs)) ok5' (by simp only [List.length_append, List.length_cons, List.length_replicate, List.length_set]; omega)
        obtain ⟨o, eo, pp, acc, e1, _, _, h3, r3⟩ := ok6.sl 1 _ rfl
        cases eo; cases e1
        obtain ⟨w', e2', rw_⟩ := ok6.top
        cases e2'
        have hacc : acc.length ≤ i := by
          rw [← r3.length, List.length_map]
          exact Nat.le_trans (List.length_filter_le _ _) (by rw [List.length_range]; omega)
        refine ⟨acc, h3, by omega, G5, ?_⟩
        have e : ((List.range (i + 1)).filter p).map f = ((List.range i).filter p).map f ++ [f i] := by rw [tk, List.filter_append]; simp [hp]
        rw [e]
        exact (OKG.change (i := 1) ok6 rfl rfl h3 (r3.append (.cons rw_ .nil))).pop
  · refine .inl ⟨j3 i hge, ?_⟩
    have e : i = ys.length := by omega
    rw [e] at ok2
    exact qq _ H2 ⟨G2, ok1.unground ok2⟩
end
section
variable {Hy : PySem.W.Frag → Prop}
def SX.lst (a : SAX Hy) : SX Hy where
  t K W := tLst (a.t K W)
  f δ := (a.f δ).bin fun xs δ1 => if xs.length ≤ sizeLine then .ok (.own xs) δ1 else .no
  ok K hk W δ := by
    cases h : a.f δ with
    | ok xs δ1 =>
      rw [MX.ok_bin]
      by_cases z : xs.length ≤ sizeLine
      · rw [if_pos z]; exact evx_lst (a.okA hk h) z
      · rw [if_neg z]; trivial
    | _ => trivial
@[simp] theorem SX.lst_f (a : SAX Hy) (δ : List S) : (SX.lst a).f δ = (a.f δ).bin fun xs δ1 => if xs.length ≤ sizeLine then .ok (.own xs) δ1 else .no := (rfl)
def frzX (m : MX S) : MX S := match m with | .ok (.own xs) δ1 => .ok (.d (.lst xs)) δ1 | r => r
def SX.frz (e : SX Hy) : SX Hy where
  t := e.t
  f δ := frzX (e.f δ)
  ok K hk W δ := by
    have z := e.ok K hk W δ
    unfold frzX
    split
    · rename_i h; rw [h] at z; exact evx_frz z
    · exact z
@[simp] theorem SX.frz_f (e : SX Hy) (δ : List S) : (SX.frz e).f δ = frzX (e.f δ) := (rfl)
@[simp] theorem frzX_own {xs : List D} {δ : List S} : frzX (.ok (.own xs) δ) = .ok (.d (.lst xs)) δ := (rfl)
def obF (q : Option Addr) (C : Addr) (o : Option D) (m : M (Option Addr × Addr × List (Str × D))) : Option (Option D × List (Str × D)) := match m with
  | .ok p => if p.1 = q ∧ p.2.1 = C then some (o, p.2.2) else none | _ => none
theorem obF_to {q : Option Addr} {C : Addr} {o o' : Option D} {m : M (Option Addr × Addr × List (Str × D))} {fs : List (Str × D)} (h : obF q C o m = some (o', fs)) : o' = o ∧ m = .ok (q, C, fs) := by
  unfold obF at h
  split at h
  · rename_i p
    split at h
    · rename_i z
      obtain ⟨a, b, c⟩ := p
      obtain ⟨z1, z2⟩ := z
      simp only at z1 z2
      subst z1; subst z2
      cases h
      exact ⟨rfl, rfl⟩
    · cases h
  · cases h
/-- one turn of a comprehension that changes the object in slot j -/
def stX (c : STX Hy) (e : SX Hy) (v j : Nat) (δ : List S) (q : Option Addr) (C : Addr) (fs : List (Str × D)) (y : D) : Option (Option D × List (Str × D)) :=
  match c.f ((δ.set j (.ob q C fs)).set v (.d y)) with
  | .ok true δ3 => (match e.f δ3 with | .ok (.d x) δ4 => obF q C (some x) (obj δ4 j) | _ => none)
  | .ok false δ3 => obF q C none (obj δ3 j)
  | _ => none
def lcT (st : List (Str × D) → D → Option (Option D × List (Str × D))) : List (Str × D) → List D → Option (List (Option D × List (Str × D)))
  | _, [] => some []
  | fs, y :: r => match st fs y with | some p => (lcT st p.2 r).map (p :: ·) | none => none
def Fof (fs : List (Str × D)) : List (Option D × List (Str × D)) → Nat → List (Str × D)
  | _, 0 => fs | [], _ + 1 => fs | p :: r, i + 1 => Fof p.2 r i
@[simp] theorem Fof_0 {fs : List (Str × D)} {tr : List (Option D × List (Str × D))} : Fof fs tr 0 = fs := by cases tr <;> rfl
theorem lcT_get {st : List (Str × D) → D → Option (Option D × List (Str × D))} : ∀ {ys : List D} {fs : List (Str × D)} {tr : List (Option D × List (Str × D))}, lcT st fs ys = some tr → tr.length = ys.length ∧ ∀ i y, ys[i]? = some y → ∃ o, st (Fof fs tr i) y = some (o, Fof fs tr (i + 1)) ∧ tr[i]? = some (o, Fof fs tr (i + 1))
  | [], fs, tr, h => by cases h; exact ⟨rfl, fun i y e => by simp at e⟩
  | y :: r, fs, tr, h => by
    unfold lcT at h
    cases h1 : st fs y with
    | none => rw [h1] at h; cases h
    | some p =>
      rw [h1] at h
      simp only [Option.map_eq_some_iff] at h
      obtain ⟨tr', h2, rfl⟩ := h
      obtain ⟨a, b⟩ := lcT_get h2
      refine ⟨by simp [a], fun i z e => ?_⟩
      cases i with
      | zero =>
        simp only [List.getElem?_cons_zero, Option.some.injEq] at e
        subst e
        exact ⟨p.1, by simpa [Fof] using h1, by simp [Fof]⟩
      | succ i =>
        rw [List.getElem?_cons_succ] at e
        obtain ⟨o, b1, b2⟩ := b i z e
        exact ⟨o, b1, by rw [List.getElem?_cons_succ]; exact b2⟩
def trO (tr : List (Option D × List (Str × D))) (i : Nat) : Option D := match tr[i]? with | some p => p.1 | none => none
theorem trO_all : ∀ tr : List (Option D × List (Str × D)), ((List.range tr.length).filter fun i => (trO tr i).isSome).map (fun i => (trO tr i).getD .non) = tr.filterMap (·.1)
  | [] => rfl
  | p :: r => by
    have ih := trO_all r
    rw [List.length_cons, List.range_succ_eq_map, List.filter_cons, List.filter_map, List.filterMap_cons]
    have e : ((fun i => (trO (p :: r) i).isSome) ∘ Nat.succ) = fun i => (trO r i).isSome := funext fun i => by unfold trO; simp [Function.comp]
    have e2 : ((fun i => (trO (p :: r) i).getD D.non) ∘ Nat.succ) = fun i => (trO r i).getD .non := funext fun i => by unfold trO; simp [Function.comp]
    rw [e]
    have e0 : trO (p :: r) 0 = p.1 := rfl
    rw [e0]
    cases h : p.1 with
    | none => simp only [Option.isSome_none]; rw [if_neg (fun z => nomatch z), List.map_map, e2]; exact ih
    | some x => simp only [Option.isSome_some, if_true]; rw [List.map_cons, List.map_map, e2, ih, e0, h]; rfl
def lcXF (c : STX Hy) (e : SX Hy) (v j : Nat) (vs : List Nat) (δ : List S) (p : Option Addr × Addr × List (Str × D)) (ys : List D) : MX S :=
  if v ∈ vs ∧ j ∉ vs ∧ v < δ.length ∧ ys.length ≤ sizeLine then (match lcT (stX c e v j (hide δ vs) p.1 p.2.1) p.2.2 ys with
    | some tr => .ok (.own (tr.filterMap (·.1))) (δ.set j (.ob p.1 p.2.1 (Fof p.2.2 tr ys.length))) | none => .no) else .no
def SX.lc (i : SI Hy) (v : Nat) (c : STX Hy) (e : SX Hy) (vs : List Nat) (j : Nat) : SX Hy where
  t K W := tLc (i.t K W) (gName v) (c.t K W) (e.t K W) vs
  f δ := match obj δ j with | .ok p => (match i.f δ with | .ok ys => lcXF c e v j vs δ p ys | _ => .no) | _ => .no
  ok K hk W δ := by
    cases h : obj δ j with
    | ok p =>
      cases h2 : i.f δ with
      | ok ys =>
        simp only
        unfold lcXF
        by_cases z : v ∈ vs ∧ j ∉ vs ∧ v < δ.length ∧ ys.length ≤ sizeLine
        · rw [if_pos z]
          cases h3 : lcT (stX c e v j (hide δ vs) p.1 p.2.1) p.2.2 ys with
          | none => trivial
          | some tr =>
            obtain ⟨tl, tg⟩ := lcT_get h3
            show EVX K _ δ (.own (tr.filterMap (·.1))) _
            rw [← trO_all tr, tl]
            refine evx_lc (F := Fof p.2.2 tr) (q := p.1) (C := p.2.1) (i.okI hk h2) z.1 z.2.2.2 (by rw [Fof_0]; exact obj_ok h) z.2.1 fun k y ey => ?_
            obtain ⟨o, t1, t2⟩ := tg k y ey
            have oa : trO tr k = o := by unfold trO; rw [t2]
            have et : ET K (gName v) ((hide δ vs).set j (.ob p.1 p.2.1 (Fof p.2.2 tr k))) y (((hide δ vs).set j (.ob p.1 p.2.1 (Fof p.2.2 tr k))).set v (.d y)) := et_name (by rw [List.length_set, hide_len]; exact z.2.2.1)
            unfold stX at t1
            rw [oa]
            cases h4 : c.f (((hide δ vs).set j (.ob p.1 p.2.1 (Fof p.2.2 tr k))).set v (.d y)) with
            | ok b δ3 =>
              rw [h4] at t1
              cases b with
              | true =>
                simp only at t1
                cases h5 : e.f δ3 with
                | ok s δ4 =>
                  rw [h5] at t1
                  cases s with
                  | d x =>
                    simp only at t1
                    obtain ⟨q1, q2⟩ := obF_to t1
                    subst q1
                    exact ⟨_, δ3, et, c.okB hk h4, (fun z => nomatch z), fun _ => ⟨δ4, e.okS hk h5, obj_ok q2⟩⟩
                  | _ => cases t1
                | _ => rw [h5] at t1; cases t1
              | false =>
                simp only at t1
                obtain ⟨q1, q2⟩ := obF_to t1
                subst q1
                exact ⟨_, δ3, et, c.okB hk h4, (fun _ => obj_ok q2), fun z => nomatch z⟩
            | _ => rw [h4] at t1; cases t1
        · rw [if_neg z]; trivial
      | _ => trivial
    | _ => trivial
@[simp] theorem SX.lc_f (i : SI Hy) (v : Nat) (c : STX Hy) (e : SX Hy) (vs : List Nat) (j : Nat) (δ : List S) : (SX.lc i v c e vs j).f δ = match obj δ j with | .ok p => (match i.f δ with | .ok ys => lcXF c e v j vs δ p ys | _ => .no) | _ => .no := (rfl)
/-- a run over a range, turn by turn -/
theorem lcT_rg {st : List (Str × D) → D → Option (Option D × List (Str × D))} {F : Nat → List (Str × D)} {o : Nat → Option D} {lo : Int} {n : Nat} (h : ∀ i, i < n → st (F i) (.int (lo + (i : Int))) = some (o i, F (i + 1))) : lcT st (F 0) (rg lo n) = some ((List.range n).map fun i => (o i, F (i + 1))) := by
  have key : ∀ (n : Nat) (m : Nat), (∀ i, i < n → st (F (m + i)) (.int (lo + ((m + i : Nat) : Int))) = some (o (m + i), F (m + i + 1))) → lcT st (F m) ((List.range n).map fun i => D.int (lo + ((m + i : Nat) : Int))) = some ((List.range n).map fun i => (o (m + i), F (m + i + 1))) := fun n => by
    induction n with
    | zero => intro m _; rfl
    | succ n ih =>
      intro m hm
      have h0 := hm 0 (by omega)
      rw [Nat.add_zero] at h0
      have e := ih (m + 1) fun i hi => by
        have := hm (i + 1) (by omega)
        rw [show m + (i + 1) = m + 1 + i by omega] at this
        exact this
      rw [List.range_succ_eq_map, List.map_cons, List.map_map, List.map_cons, List.map_map]
      unfold lcT
      rw [Nat.add_zero, h0]
      simp only
      have c1 : (List.range n).map ((fun i => D.int (lo + ((m + i : Nat) : Int))) ∘ Nat.succ) = (List.range n).map fun i => D.int (lo + ((m + 1 + i : Nat) : Int)) := List.map_congr_left fun i _ => by show D.int _ = D.int _; congr 2; omega
      have c2 : (List.range n).map ((fun i => (o (m + i), F (m + i + 1))) ∘ Nat.succ) = (List.range n).map fun i => (o (m + 1 + i), F (m + 1 + i + 1)) := List.map_congr_left fun i _ => by
        show (o (m + (i + 1)), F (m + (i + 1) + 1)) = _
        rw [show m + (i + 1) = m + 1 + i by omega]
      rw [c1, c2, e]; rfl
  have z := key n 0 fun i hi => by rw [Nat.zero_add]; exact h i hi
  simp only [Nat.zero_add] at z
  exact z
theorem Fof_range {F : Nat → List (Str × D)} {o : Nat → Option D} : ∀ {n : Nat}, Fof (F 0) ((List.range n).map fun i => (o i, F (i + 1))) n = F n := by
  have key : ∀ (n m : Nat), Fof (F m) ((List.range n).map fun i => (o (m + i), F (m + i + 1))) n = F (m + n) := fun n => by
    induction n with
    | zero => intro m; rfl
    | succ n ih =>
      intro m
      rw [List.range_succ_eq_map, List.map_cons, List.map_map]
      unfold Fof
      have c2 : (List.range n).map ((fun i => (o (m + i), F (m + i + 1))) ∘ Nat.succ) = (List.range n).map fun i => (o (m + 1 + i), F (m + 1 + i + 1)) := List.map_congr_left fun i _ => by
        show (o (m + (i + 1)), F (m + (i + 1) + 1)) = _
        rw [show m + (i + 1) = m + 1 + i by omega]
      rw [c2]
      have := ih (m + 1)
      rw [show m + 1 + n = m + (n + 1) by omega] at this
      exact this
  intro n
  have z := key n 0
  simp only [Nat.zero_add] at z
  exact z
end
end Far
/-! Methods of texts with one argument: startswith, partition, split, join, strip(signs), index; int(text). -/
namespace Far
open PySem L2
/-- a method of a text, of one argument -/
def RM1 (K : PySem.W.Frag) (r : V → List V → Hp → VK → Prop) (a : Str) (y : D) (s : S) : Prop := ∀ (He Ge H G : Hp) (σ : St) (δ : List S) (u : V), OKG K He Ge H G σ δ → Rp K G y u →
  ∀ Q : VK, (∀ z H', OK K He Ge H' (some z :: σ) (s :: δ) → Q z H') → r (.str a) [u] H Q
theorem ev_m1 {K : PySem.W.Frag} {δ : List S} {ta tb : TE} {a : Str} {y : D} {s : S} {r : V → List V → Hp → VK → Prop} (ha : EV K ta δ (.d (.str a))) (hb : EV K tb δ (.d y)) (hr : RM1 K r a y s) : EV K (tM1 r ta tb) δ s := by
  intro He Ge H τo τs σ hl ok Q q
  refine ha He Ge H τo τs σ hl ok _ fun v H1 ok1 => ?_
  have hv : v = .str a := by
    obtain ⟨G, ok1⟩ := ok1
    obtain ⟨_, e1, r1⟩ := ok1.top
    cases e1; cases r1; rfl
  subst hv
  refine ⟨⟨a, rfl⟩, hb He Ge H1 (some _ :: τo) (.d (.str a) :: τs) σ (by simp [hl]) ok1 _ fun u H2 ok2 => ?_⟩
  obtain ⟨G, ok2⟩ := ok2
  obtain ⟨_, e1, r1⟩ := ok2.top
  cases e1
  exact hr He Ge H2 G _ _ u ok2.pop.pop r1 Q q
structure OM where
  r : PySem.W.Frag → V → List V → Hp → VK → Prop
  f : Str → D → Option S
  ok : ∀ K a y s, f a y = some s → RM1 K (r K) a y s
section
variable {Hy : PySem.W.Frag → Prop}
def omF (o : OM) (x y : D) : M S := match x with | .str a => .of (o.f a y) | _ => .no
def SE.m1 (o : OM) (a b : SE Hy) : SE Hy where
  t K W := tM1 (o.r K) (a.t K W) (b.t K W)
  f δ := (a.fd δ).bin fun x => (b.fd δ).bin fun y => omF o x y
  ok K hk W δ := by
    cases h : a.fd δ with
    | ok x =>
      rw [M.ok_bin]
      cases h2 : b.fd δ with
      | ok y =>
        rw [M.ok_bin]
        cases x with
        | str z =>
          show EVF K W _ δ (.of (o.f z y))
          cases h3 : o.f z y with
          | none => trivial
          | some s => exact ev_m1 (a.okD hk h) (b.okD hk h2) (o.ok K z y s h3)
        | _ => trivial
      | _ => trivial
    | _ => trivial
theorem SE.m1_f (o : OM) (a b : SE Hy) (δ : List S) : (SE.m1 o a b).f δ = (a.fd δ).bin fun x => (b.fd δ).bin fun y => omF o x y := rfl
end
/-! ### startswith -/
def rSw : V → List V → Hp → VK → Prop := fun x xs H Q => ∃ a b, x = .str a ∧ xs = [.str b] ∧ Q (.bl (Txt.startswith a b)) H
def swF (a : Str) : D → Option S | .str b => some (.d (.bl (Txt.startswith a b))) | _ => none
def oSw : OM := ⟨fun _ => rSw, swF, fun K a y s h => by
  unfold swF at h; split at h
  · cases h
    intro He Ge H G σ δ u ok ru Q q
    cases ru
    exact ⟨_, _, rfl, rfl, q _ _ (done ok .bl)⟩
  · cases h⟩
/-! ### partition -/
def rPart : V → List V → Hp → VK → Prop := fun x xs H Q => ∃ a b, x = .str a ∧ xs = [.str b] ∧ (b.length == 0) = false ∧ a.length ≤ sizeLine ∧
  ∀ p, H p = none → Q (.ref p) (upd H p (.tup [.str (Txt.partition a b).1, .str (Txt.partition a b).2.1, .str (Txt.partition a b).2.2]))
def partF (a : Str) : D → Option S
  | .str b => if (b.length == 0) = false ∧ a.length ≤ sizeLine then some (.d (.utp [.str (Txt.partition a b).1, .str (Txt.partition a b).2.1, .str (Txt.partition a b).2.2])) else none
  | _ => none
def oPart : OM := ⟨fun _ => rPart, partF, fun K a y s h => by
  unfold partF at h; split at h
  · split at h
    · rename_i w
      cases h
      intro He Ge H G σ δ u ok ru Q q
      cases ru
      exact ⟨_, _, rfl, rfl, w.1, w.2, fun p hp => q _ _ ⟨_, (ok.newG hp).pushD (.utp (SqT.of upd_same) (.cons .str (.cons .str (.cons .str .nil))))⟩⟩
    · cases h
  · cases h⟩
/-! ### split -/
theorem rpL_strs (K : PySem.W.Frag) (G : Hp) : ∀ l : List Str, RpL K G (l.map D.str) (l.map V.str)
  | [] => .nil
  | _ :: r => .cons .str (rpL_strs K G r)
theorem rp_strs_inv {K : PySem.W.Frag} {G : Hp} : ∀ {l : List Str} {vs : List V}, RpL K G (l.map D.str) vs → vs = l.map V.str
  | [], _, .nil => rfl
  | _ :: l, _, .cons r t => by cases r; rw [rp_strs_inv t]; rfl
def rSplit : V → List V → Hp → VK → Prop := fun x xs H Q => ∃ a b, x = .str a ∧ xs = [.str b] ∧ (b.length == 0) = false ∧ a.length + 2 ≤ sizeLine ∧ rNewStrs (Txt.split a b) H Q
def splitF (a : Str) : D → Option S
  | .str b => if (b.length == 0) = false ∧ a.length + 2 ≤ sizeLine then some (.own ((Txt.split a b).map .str)) else none
  | _ => none
def oSplit : OM := ⟨fun _ => rSplit, splitF, fun K a y s h => by
  unfold splitF at h; split at h
  · split at h
    · rename_i w
      cases h
      intro He Ge H G σ δ u ok ru Q q
      cases ru
      exact ⟨_, _, rfl, rfl, w.1, w.2, fun p hp => q _ _ (doneL ok hp (rpL_strs K G _))⟩
    · cases h
  · cases h⟩
/-! ### join -/
def strsD : List D → Option (List Str)
  | [] => some [] | .str b :: r => (strsD r).map (b :: ·) | _ => none
theorem strsD_to : ∀ {xs : List D} {bs : List Str}, strsD xs = some bs → xs = bs.map .str
  | [], bs, h => by cases h; rfl
  | x :: r, bs, h => by
    cases x with
    | str b =>
      unfold strsD at h
      obtain ⟨cs, e, rfl⟩ := Option.map_eq_some_iff.mp h
      rw [strsD_to e]; rfl
    | _ => cases h
theorem strs_map {α : Type} (f : α → Str) : ∀ l : List α, strsD (l.map fun x => D.str (f x)) = some (l.map f)
  | [] => rfl
  | x :: r => by
    show (strsD (r.map fun x => D.str (f x))).map (f x :: ·) = _
    rw [strs_map f r]; rfl
theorem strs_id (l : List Str) : strsD (l.map D.str) = some l := by have := strs_map (fun i : Str => i) l; rwa [List.map_id'] at this
def rJoin (K : PySem.W.Frag) : V → List V → Hp → VK → Prop := fun x xs H Q => ∃ a p, ∃ ys : List Str, x = .str a ∧ xs = [.ref p] ∧ (SqL K H p (ys.map V.str) ∨ SqT K H p (ys.map V.str)) ∧
  (ys.map (·.length)).sum + ys.length * a.length ≤ 16777216 ∧ Q (.str (Txt.join a ys)) H
def itemsD : D → Option (List D) | .lst xs => some xs | .tup xs => some xs | _ => none
def joinF (a : Str) (x : D) : Option S := (itemsD x).bind fun xs => (strsD xs).bind fun ys => if (ys.map (·.length)).sum + ys.length * a.length ≤ 16777216 then some (.d (.str (Txt.join a ys))) else none
def oJoin : OM := ⟨fun K => rJoin K, joinF, fun K a y s h => by
  unfold joinF at h
  obtain ⟨xs, e1, h⟩ := Option.bind_eq_some_iff.mp h
  obtain ⟨ys, e2, h⟩ := Option.bind_eq_some_iff.mp h
  split at h
  · rename_i w
    cases h
    have e3 := strsD_to e2
    subst e3
    intro He Ge H G σ δ u ok ru Q q
    unfold itemsD at e1
    split at e1
    · cases e1
      cases ru with
      | lst hl r => rw [rp_strs_inv r] at hl; exact ⟨_, _, ys, rfl, rfl, .inl (SqL.of (ok.gh _ _ hl)), w, q _ _ (done ok .str)⟩
    · cases e1
      cases ru with
      | tup hl r => rw [rp_strs_inv r] at hl; exact ⟨_, _, ys, rfl, rfl, .inr (ok.gh.t hl.t), w, q _ _ (done ok .str)⟩
    · cases e1
  · cases h⟩
/-! ### strip(signs), index(sign) -/
def rStripC : V → List V → Hp → VK → Prop := fun x xs H Q => ∃ a b, x = .str a ∧ xs = [.str b] ∧ a.length ≤ sizeLine ∧ Q (.str (Txt.stripChars a b)) H
def stripCF (a : Str) : D → Option S | .str b => if a.length ≤ sizeLine then some (.d (.str (Txt.stripChars a b))) else none | _ => none
def oStripC : OM := ⟨fun _ => rStripC, stripCF, fun K a y s h => by
  unfold stripCF at h; split at h
  · split at h
    · cases h
      intro He Ge H G σ δ u ok ru Q q
      cases ru
      exact ⟨_, _, rfl, rfl, by assumption, q _ _ (done ok .str)⟩
    · cases h
  · cases h⟩
def rSIdx : V → List V → Hp → VK → Prop := fun x xs H Q => ∃ a b i rest, x = .str a ∧ xs = [.str b] ∧ Builtin.Str.occurrences a b 0 a.length 1 = i :: rest ∧ Q (.int (i : Nat)) H
def sIdxF (a : Str) : D → Option S
  | .str b => match Builtin.Str.occurrences a b 0 a.length 1 with | i :: _ => some (.d (.int (i : Nat))) | [] => none
  | _ => none
def oSIdx : OM := ⟨fun _ => rSIdx, sIdxF, fun K a y s h => by
  unfold sIdxF at h; split at h
  · split at h
    · rename_i e
      cases h
      intro He Ge H G σ δ u ok ru Q q
      cases ru
      exact ⟨_, _, _, _, rfl, rfl, e, q _ _ (done ok .int)⟩
    · cases h
  · cases h⟩
/-! ### for sign in text -/
def chV (x : Str) : List V := x.cps.toList.map fun c => V.str ⟨#[c]⟩
def chD (x : Str) : List D := x.cps.toList.map fun c => D.str ⟨#[c]⟩
theorem jis_str {G : Hp} {x : Str} : JIs G (Its x) (chV x) := fun H e => by
  have hl : (chV x).length = x.cps.size := by unfold chV; rw [List.length_map, Array.length_toList]
  refine ⟨fun i hi => by show i < x.cps.size; omega, fun i v H' ⟨h1, c, h2, h3⟩ => ⟨h1, fun hi => ?_⟩, fun i hi => by show x.cps.size ≤ i; omega⟩
  unfold chV
  rw [List.getElem?_map, Array.getElem?_toList, h2, h3]; rfl
theorem rpL_ch (K : PySem.W.Frag) (G : Hp) : ∀ l : List Nat, RpL K G (l.map fun c => D.str ⟨#[c]⟩) (l.map fun c => V.str ⟨#[c]⟩)
  | [] => .nil
  | _ :: r => .cons .str (rpL_ch K G r)
theorem ei_str {K : PySem.W.Frag} {δ : List S} {te : TE} {x : Str} (h : EV K te δ (.d (.str x))) : EI K (iStr te) δ (chD x) := by
  intro He Ge H τo τs σ hl ok R q
  refine h He Ge H τo τs σ hl ok _ fun v H1 ⟨G, ok1⟩ => ?_
  obtain ⟨_, e1, r1⟩ := ok1.top
  cases e1; cases r1
  exact ⟨x, rfl, q _ H1 G ok1.pop (jig_of (rpL_ch K G _) jis_str)⟩
def SI.str {Hy : PySem.W.Frag → Prop} (e : SE Hy) : SI Hy where
  t K W := iStr (e.t K W)
  f δ := (e.fd δ).bin fun x => match x with | .str z => .ok (chD z) | _ => .no
  ok K hk W δ := by
    cases h : e.fd δ with
    | ok x =>
      rw [M.ok_bin]
      cases x with
      | str xs => exact ei_str (e.okD hk h)
      | _ => trivial
    | _ => trivial
def strIt (x : D) : M (List D) := match x with | .str z => .ok (chD z) | _ => .no
@[simp] theorem SI.str_f {Hy : PySem.W.Frag → Prop} (e : SE Hy) (δ : List S) : (SI.str e).f δ = (e.fd δ).bin strIt := (rfl)
@[simp] theorem strIt_s {z : Str} : strIt (.str z) = .ok (chD z) := (rfl)
theorem chD_S (l : List Nat) : chD (SX.S l) = l.map fun c => D.str (SX.S [c]) := (rfl)
/-! ### int(text) -/
open Classical in
noncomputable def intSF : List D → Option S
  | [.int i] => some (.d (.int i)) | [.bl b] => some (.d (.int (if b then 1 else 0)))
  | [.str a] => if a.length ≤ 640 then (PySem.intText? a).map fun n => .d (.int n) else none
  | _ => none
noncomputable def bIntS {Hy : PySem.W.Frag → Prop} : OB Hy := ⟨fun K => rIntU, intSF, fun K hk xs s h => by
  unfold intSF at h; split at h
  · cases h; exact int_int
  · cases h; exact int_bl
  · split at h
    · obtain ⟨n, e, rfl⟩ := Option.map_eq_some_iff.mp h
      intro He Ge H G σ δ vs ok r Q q
      cases r with
      | cons r r2 => cases r2; cases r; exact .inr ⟨_, n, rfl, e, by assumption, q _ _ (done ok .int)⟩
    · cases h
  · cases h⟩
section
variable {Hy : PySem.W.Frag → Prop}
@[simp] theorem bIntS_f : (bIntS : OB Hy).f = intSF := (rfl)
@[simp] theorem SE.m1_fs (o : OM) (a b : SE Hy) (δ : List S) : (SE.m1 o a b).f δ = (a.fd δ).bin fun x => (b.fd δ).bin fun y => omF o x y := (rfl)
@[simp] theorem SE.m1_fd (o : OM) (a b : SE Hy) (δ : List S) : (SE.m1 o a b).fd δ = ((a.fd δ).bin fun x => (b.fd δ).bin fun y => omF o x y).bind toD := (rfl)
end
@[simp] theorem omF_sw {a b : Str} : omF oSw (.str a) (.str b) = .ok (.d (.bl (Txt.startswith a b))) := (rfl)
@[simp] theorem omF_part {a b : Str} (h : (b.length == 0) = false) (k : a.length ≤ sizeLine) : omF oPart (.str a) (.str b) = .ok (.d (.utp [.str (Txt.partition a b).1, .str (Txt.partition a b).2.1, .str (Txt.partition a b).2.2])) := by
  show M.of (if _ then _ else _) = _
  rw [if_pos ⟨h, k⟩]; rfl
@[simp] theorem omF_split {a b : Str} (h : (b.length == 0) = false) (k : a.length + 2 ≤ sizeLine) : omF oSplit (.str a) (.str b) = .ok (.own ((Txt.split a b).map .str)) := by
  show M.of (if _ then _ else _) = _
  rw [if_pos ⟨h, k⟩]; rfl
@[simp] theorem omF_joinL {a : Str} {ys : List Str} (h : (ys.map (·.length)).sum + ys.length * a.length ≤ 16777216) : omF oJoin (.str a) (.lst (ys.map .str)) = .ok (.d (.str (Txt.join a ys))) := by
  show M.of ((strsD (ys.map .str)).bind _) = _
  rw [strs_id]
  show M.of (if _ then _ else _) = _
  rw [if_pos h]; rfl
@[simp] theorem omF_joinT {a : Str} {ys : List Str} (h : (ys.map (·.length)).sum + ys.length * a.length ≤ 16777216) : omF oJoin (.str a) (.tup (ys.map .str)) = .ok (.d (.str (Txt.join a ys))) := by
  show M.of ((strsD (ys.map .str)).bind _) = _
  rw [strs_id]
  show M.of (if _ then _ else _) = _
  rw [if_pos h]; rfl
@[simp] theorem omF_strip {a b : Str} (k : a.length ≤ sizeLine) : omF oStripC (.str a) (.str b) = .ok (.d (.str (Txt.stripChars a b))) := by
  show M.of (if _ then _ else _) = _
  rw [if_pos k]; rfl
theorem omF_idx {a b : Str} {i : Nat} {r : List Nat} (h : Builtin.Str.occurrences a b 0 a.length 1 = i :: r) : omF oSIdx (.str a) (.str b) = .ok (.d (.int (i : Nat))) := by
  have e : sIdxF a (.str b) = some (.d (.int (i : Nat))) := by
    simp only [sIdxF, h]
  show M.of (sIdxF a (.str b)) = _
  rw [e]; rfl
theorem intSF_str {a : Str} {n : Int} (h : a.length ≤ 640) (k : PySem.intText? a = some n) : intSF [.str a] = some (.d (.int n)) := by
  show (if a.length ≤ 640 then _ else _) = _
  rw [if_pos h, k]; rfl
@[simp] theorem intSF_int {i : Int} : intSF [.int i] = some (.d (.int i)) := (rfl)
@[simp] theorem intSF_bl {b : Bool} : intSF [.bl b] = some (.d (.int (if b then 1 else 0))) := (rfl)
section
variable {X : Cx} {o e : Expr} {to te : TE}
theorem pe_sw {apos pos : Pos} (ho : PE X o to) (he : PE X e te) (hs : starEach [e] X.env = [(false, eval e X.env)] := by rfl) (hbase : attributeBase o "startswith" X.env (eval o X.env) = eval o X.env := by rfl) (hline : (apos.endLine == pos.line) = true := by rfl) :
    PE X (.Call (.Attribute o "startswith" apos) [e] [] pos) (tM1 rSw to te) :=
  pe_m1 PySem.F.slot_str_startswith PySem.F.type_str_startswith mt_startswith ho he hs hbase hline
theorem pe_sidx {apos pos : Pos} (ho : PE X o to) (he : PE X e te) (hs : starEach [e] X.env = [(false, eval e X.env)] := by rfl) (hbase : attributeBase o "index" X.env (eval o X.env) = eval o X.env := by rfl) (hline : (apos.endLine == pos.line) = true := by rfl) :
    PE X (.Call (.Attribute o "index" apos) [e] [] pos) (tM1 rSIdx to te) :=
  pe_m1 PySem.F.slot_str_index PySem.F.type_str_index mt_sindex ho he hs hbase hline
theorem pe_stripC {apos pos : Pos} (ho : PE X o to) (he : PE X e te) (hs : starEach [e] X.env = [(false, eval e X.env)] := by rfl) (hbase : attributeBase o "strip" X.env (eval o X.env) = eval o X.env := by rfl) (hline : (apos.endLine == pos.line) = true := by rfl) :
    PE X (.Call (.Attribute o "strip" apos) [e] [] pos) (tM1 rStripC to te) :=
  pe_m1 PySem.F.slot_str_strip PySem.F.type_str_strip mt_stripChars ho he hs hbase hline
theorem pe_splitT {apos pos : Pos} (ho : PE X o to) (he : PE X e te) (hs : starEach [e] X.env = [(false, eval e X.env)] := by rfl) (hbase : attributeBase o "split" X.env (eval o X.env) = eval o X.env := by rfl) (hline : (apos.endLine == pos.line) = true := by rfl) :
    PE X (.Call (.Attribute o "split" apos) [e] [] pos) (tM1 rSplit to te) :=
  pe_m1 PySem.F.slot_str_split PySem.F.type_str_split mt_split ho he hs hbase hline
theorem pe_partT {apos pos : Pos} (ho : PE X o to) (he : PE X e te) (hs : starEach [e] X.env = [(false, eval e X.env)] := by rfl) (hbase : attributeBase o "partition" X.env (eval o X.env) = eval o X.env := by rfl) (hline : (apos.endLine == pos.line) = true := by rfl) :
    PE X (.Call (.Attribute o "partition" apos) [e] [] pos) (tM1 rPart to te) :=
  pe_m1 PySem.F.slot_str_partition PySem.F.type_str_partition mt_partition ho he hs hbase hline
theorem pe_joinT {apos pos : Pos} (ho : PE X o to) (he : PE X e te) (hs : starEach [e] X.env = [(false, eval e X.env)] := by rfl) (hbase : attributeBase o "join" X.env (eval o X.env) = eval o X.env := by rfl) (hline : (apos.endLine == pos.line) = true := by rfl) :
    PE X (.Call (.Attribute o "join" apos) [e] [] pos) (tM1 (rJoin X.K) to te) :=
  pe_m1 PySem.F.slot_str_join PySem.F.type_str_join mt_join ho he hs hbase hline
end
end Far
namespace Far
open PySem L2
class ZF (K : PySem.W.Frag) (Z : Zs) : Prop where
  triv : True
def HY (Z : Zs) (K : PySem.W.Frag) : Prop := ZF K Z
def TB (Z : Zs) : Tab := ⟨[], [], [], [], []⟩
theorem TB_ok (Z : Zs) : (TB Z).Ok (HY Z) := fun K hk => haveI : ZF K Z := hk
  ⟨fm_nil, fm_nil, fm_nil, fm_nil, fm_nil⟩
def N_number_text : List Str := ["number"]
noncomputable def b_number_text (Z : Zs) : SS (HY Z) :=
  (.ret (.cb bStr (.cons (.var 0) .nil)))
noncomputable def F_number_text (Z : Zs) : List D → M S := runF (b_number_text Z) 1 1
theorem F_number_text_eq {Z : Zs} {x0 : D} : F_number_text Z [x0] = fin ((b_number_text Z).f [.d x0]) := by kernel_rfl
def N_number_by : List Str := ["text", "figures", "sign"]
noncomputable def b_number_by (Z : Zs) : SS (HY Z) :=
  (.seq (.setD 1 (.ifE (.tru (.m1 oSw (.var 0) (.str "-"))) (.sl (.var 0) (.some (.int 1)) .none) (.var 0)))
  (.seq (.ite (.or (.of (.op oEq (.var 1) (.str ""))) (.not (.tru (.cb bAll (.cons (.lc (.str (.var 1)) (.name 2) .yes (.op oIn (.var 2) (.str "0123456789")) [2]) .nil)))))
  (.ret .non)
  .skip)
  (.seq (.ite (.and (.of (.op oEq (.op oIx (.var 1) (.int 0)) (.str "0"))) (.of (.op oNe (.var 0) (.str "0"))))
  (.ret .non)
  .skip)
  (.ret (.ifE (.tru (.m1 oSw (.var 0) (.str "-"))) (.un oNeg (.cb bIntS (.cons (.var 1) .nil))) (.cb bIntS (.cons (.var 1) .nil)))))))
noncomputable def F_number_by (Z : Zs) : List D → M S := runF (b_number_by Z) 3 1
theorem F_number_by_eq {Z : Zs} {x0 : D} : F_number_by Z [x0] = fin ((b_number_by Z).f [.d x0, .un, .un]) := by kernel_rfl
def N_end_text : List Str := ["end"]
noncomputable def b_end_text (Z : Zs) : SS (HY Z) :=
  (.seq (.ite (.of (.op oIsN (.var 0) .non))
  (.ret (.str ""))
  .skip)
  (.ret (.call (F_number_text Z) (.cons (.var 0) .nil))))
noncomputable def F_end_text (Z : Zs) : List D → M S := runF (b_end_text Z) 1 1
theorem F_end_text_eq {Z : Zs} {x0 : D} : F_end_text Z [x0] = fin ((b_end_text Z).f [.d x0]) := by kernel_rfl
def N_span_text : List Str := ["span", "first", "last"]
noncomputable def b_span_text (Z : Zs) : SS (HY Z) :=
  (.seq (.asg (.var 0) (.seq 2 (.cons 1 (.cons 2 .nil))))
  (.seq (.ite (.and (.of (.op oNotN (.var 1) .non)) (.of (.op oEq (.var 1) (.var 2))))
  (.ret (.call (F_number_text Z) (.cons (.var 1) .nil)))
  .skip)
  (.ret (.op oAdd (.op oAdd (.call (F_end_text Z) (.cons (.var 1) .nil)) (.str "..")) (.call (F_end_text Z) (.cons (.var 2) .nil))))))
noncomputable def F_span_text (Z : Zs) : List D → M S := runF (b_span_text Z) 3 1
theorem F_span_text_eq {Z : Zs} {x0 : D} : F_span_text Z [x0] = fin ((b_span_text Z).f [.d x0, .un, .un]) := by kernel_rfl
def N_span_by : List Str := ["text", "ahead", "mark", "behind", "first", "last"]
noncomputable def b_span_by (Z : Zs) : SS (HY Z) :=
  (.seq (.asg (.m1 oPart (.var 0) (.str "..")) (.seq 3 (.cons 1 (.cons 2 (.cons 3 .nil)))))
  (.seq (.setD 4 (.call (F_number_by Z) (.cons (.var 1) .nil)))
  (.seq (.setD 5 (.call (F_number_by Z) (.cons (.var 3) .nil)))
  (.seq (.ite (.of (.op oEq (.var 2) (.str "")))
  (.ret (.ifE (.of (.op oIsN (.var 4) .non)) .non (.tup (.cons (.var 4) (.cons (.var 4) .nil)))))
  .skip)
  (.seq (.ite (.or (.and (.of (.op oIsN (.var 4) .non)) (.of (.op oNe (.var 1) (.str "")))) (.and (.of (.op oIsN (.var 5) .non)) (.of (.op oNe (.var 3) (.str "")))))
  (.ret .non)
  .skip)
  (.seq (.ite (.and (.of (.op oNotN (.var 4) .non)) (.and (.of (.op oNotN (.var 5) .non)) (.of (.op oGe (.var 4) (.var 5)))))
  (.ret .non)
  .skip)
  (.ret (.tup (.cons (.var 4) (.cons (.var 5) .nil))))))))))
noncomputable def F_span_by (Z : Zs) : List D → M S := runF (b_span_by Z) 6 1
theorem F_span_by_eq {Z : Zs} {x0 : D} : F_span_by Z [x0] = fin ((b_span_by Z).f [.d x0, .un, .un, .un, .un, .un]) := by kernel_rfl
def N_l_cell : List Str := ["_law_script", "_law_k", "_law_cell_here", "_law_more"]
noncomputable def b_l_cell (Z : Zs) : SS (HY Z) :=
  (.seq (.setD 2 (.op oAdd (.op oMul (.int 7919) (.var 1)) (.int 11)))
  (.seq (.ite (.of (.op oNe (.var 0) (.lst .nil)))
  (.seq (.setD 2 (.op oMul (.op oIx (.var 0) (.op oMod (.var 1) (.cb bLen (.cons (.var 0) .nil)))) (.int 48271)))
  (.setD 2 (.op oAdd (.op oAdd (.var 2) (.op oMul (.int 104729) (.var 1))) (.op oMul (.op oDiv (.var 1) (.cb bLen (.cons (.var 0) .nil))) (.int 7919)))))
  .skip)
  (.seq (.setD 3 (.op oMod (.var 2) (.int 2147483647)))
  (.seq (.setD 3 (.op oMod (.op oMul (.var 3) (.var 3)) (.int 2147483629)))
  (.ret (.op oMod (.op oAdd (.op oAdd (.op oMul (.var 3) (.var 3)) (.op oMul (.int 69621) (.var 3))) (.var 1)) (.int 2147483587)))))))
noncomputable def F_l_cell (Z : Zs) : List D → M S := runF (b_l_cell Z) 4 2
theorem F_l_cell_eq {Z : Zs} {x0 x1 : D} : F_l_cell Z [x0, x1] = fin ((b_l_cell Z).f [.d x0, .d x1, .un, .un]) := by kernel_rfl
def N_l_place : List Str := ["_law_cell_here", "_law_far", "_law_turn"]
noncomputable def b_l_place_l1 (Z : Zs) : SS (HY Z) :=
  (.setD 1 (.op oMod (.op oMul (.var 1) (.op oAdd (.var 0) (.var 2))) (.op oPow (.int 10) (.int 30))))
noncomputable def b_l_place (Z : Zs) : SS (HY Z) :=
  (.seq (.setD 1 (.int 1))
  (.seq (.forS (.rng1 (.cons (.int 4) .nil)) (.name 2) [2] (b_l_place_l1 Z))
  (.ret (.op oIx (.lst (.cons (.op oSub (.op oMod (.op oDiv (.var 0) (.int 6)) (.int 21)) (.int 10)) (.cons (.op oSub (.op oMod (.op oDiv (.var 0) (.int 6)) (.int 21)) (.int 10)) (.cons (.op oSub (.op oMod (.op oDiv (.var 0) (.int 6)) (.int 201)) (.int 100)) (.cons (.var 1) (.cons (.un oNeg (.var 1)) (.cons (.int 0) .nil))))))) (.op oMod (.var 0) (.int 6))))))
noncomputable def F_l_place (Z : Zs) : List D → M S := runF (b_l_place Z) 3 1
theorem F_l_place_eq {Z : Zs} {x0 : D} : F_l_place Z [x0] = fin ((b_l_place Z).f [.d x0, .un, .un]) := by kernel_rfl
def N_l_span : List Str := ["_law_cell_here", "_law_base", "_law_first", "_law_last"]
noncomputable def b_l_span (Z : Zs) : SS (HY Z) :=
  (.seq (.setD 2 (.op oSub (.op oAdd (.var 1) (.op oMod (.op oDiv (.var 0) (.int 16)) (.int 61))) (.int 30)))
  (.seq (.setD 3 (.op oAdd (.var 2) (.op oIx (.lst (.cons (.int 0) (.cons (.int 1) (.cons (.op oMod (.op oDiv (.var 0) (.int 1000)) (.int 4)) (.cons (.op oMod (.op oDiv (.var 0) (.int 1000)) (.int 30)) .nil))))) (.op oMod (.op oDiv (.var 0) (.int 976)) (.int 4)))))
  (.seq (.ite (.of (.op oEq (.op oMod (.var 0) (.int 16)) (.int 0)))
  (.ret (.tup (.cons .non (.cons (.var 3) .nil))))
  .skip)
  (.seq (.ite (.of (.op oEq (.op oMod (.var 0) (.int 16)) (.int 1)))
  (.ret (.tup (.cons (.var 2) (.cons .non .nil))))
  .skip)
  (.seq (.ite (.of (.op oEq (.op oMod (.var 0) (.int 160)) (.int 2)))
  (.ret (.tup (.cons .non (.cons .non .nil))))
  .skip)
  (.ret (.tup (.cons (.var 2) (.cons (.var 3) .nil)))))))))
noncomputable def F_l_span (Z : Zs) : List D → M S := runF (b_l_span Z) 4 2
theorem F_l_span_eq {Z : Zs} {x0 x1 : D} : F_l_span Z [x0, x1] = fin ((b_l_span Z).f [.d x0, .d x1, .un, .un]) := by kernel_rfl
def N_l_alike : List Str := ["_law_found", "_law_due", "_law_k"]
noncomputable def b_l_alike (Z : Zs) (FF : List D → M S) : SS (HY Z) :=
  (.seq (.ite (.tru (.cb (bIsi (TB Z) (TB_ok Z)) (.cons (.var 1) (.cons (.tup (.cons (.ty "list") (.cons (.ty "tuple") .nil))) .nil))))
  (.seq (.ite (.or (.of (.op oNe (.cb (bIsi (TB Z) (TB_ok Z)) (.cons (.var 0) (.cons (.ty "tuple") .nil))) (.cb (bIsi (TB Z) (TB_ok Z)) (.cons (.var 1) (.cons (.ty "tuple") .nil))))) (.not (.tru (.cb (bIsi (TB Z) (TB_ok Z)) (.cons (.var 0) (.cons (.tup (.cons (.ty "list") (.cons (.ty "tuple") .nil))) .nil))))))
  (.ret (.bl false))
  .skip)
  (.seq (.ite (.of (.op oNe (.cb bLen (.cons (.var 0) .nil)) (.cb bLen (.cons (.var 1) .nil))))
  (.ret (.bl false))
  .skip)
  (.ret (.cb bAll (.cons (.lc (.rng1 (.cons (.cb bLen (.cons (.var 1) .nil)) .nil)) (.name 2) .yes (.call FF (.cons (.op oIx (.var 0) (.var 2)) (.cons (.op oIx (.var 1) (.var 2)) .nil))) [2]) .nil)))))
  .skip)
  (.seq (.ite (.or (.of (.op oNe (.cb (bIsi (TB Z) (TB_ok Z)) (.cons (.var 0) (.cons (.ty "bool") .nil))) (.cb (bIsi (TB Z) (TB_ok Z)) (.cons (.var 1) (.cons (.ty "bool") .nil))))) (.of (.op oNe (.op oIsN (.var 0) .non) (.op oIsN (.var 1) .non))))
  (.ret (.bl false))
  .skip)
  (.ret (.op oEq (.var 0) (.var 1)))))
noncomputable def Fn_l_alike (Z : Zs) : Nat → List D → M S
  | 0 => runF (b_l_alike Z fun _ => .no) 3 2
  | n + 1 => runF (b_l_alike Z (Fn_l_alike Z n)) 3 2
noncomputable def F_l_alike (Z : Zs) : List D → M S := Fn_l_alike Z 2
theorem F_l_alike_0 {Z : Zs} {x0 x1 : D} : Fn_l_alike Z 0 [x0, x1] = fin ((b_l_alike Z fun _ => .no).f [.d x0, .d x1, .un]) := by kernel_rfl
theorem F_l_alike_s {Z : Zs} {n : Nat} {x0 x1 : D} : Fn_l_alike Z (n + 1) [x0, x1] = fin ((b_l_alike Z (Fn_l_alike Z n)).f [.d x0, .d x1, .un]) := by kernel_rfl
def N_l_number : List Str := ["_law_text_here", "_law_digits", "_law_sign", "_law_found"]
noncomputable def b_l_number_l1 (Z : Zs) : SS (HY Z) :=
  (.setD 3 (.op oAdd (.op oMul (.int 10) (.var 3)) (.m1 oSIdx (.str "0123456789") (.var 2))))
noncomputable def b_l_number (Z : Zs) : SS (HY Z) :=
  (.seq (.setD 1 (.var 0))
  (.seq (.ite (.of (.op oEq (.sl (.var 0) .none (.some (.int 1))) (.str "-")))
  (.setD 1 (.sl (.var 0) (.some (.int 1)) .none))
  .skip)
  (.seq (.ite (.or (.of (.op oEq (.var 1) (.str ""))) (.of (.op oNe (.lc (.str (.var 1)) (.name 2) (.of (.op oNotIn (.var 2) (.str "0123456789"))) (.var 2) [2]) (.lst .nil))))
  (.ret .non)
  .skip)
  (.seq (.ite (.and (.of (.op oEq (.op oIx (.var 1) (.int 0)) (.str "0"))) (.of (.op oNe (.var 0) (.str "0"))))
  (.ret .non)
  .skip)
  (.seq (.setD 3 (.int 0))
  (.seq (.forS (.str (.var 1)) (.name 2) [2] (b_l_number_l1 Z))
  (.ret (.op oIx (.lst (.cons (.var 3) (.cons (.un oNeg (.var 3)) .nil))) (.cb bIntS (.cons (.op oEq (.sl (.var 0) .none (.some (.int 1))) (.str "-")) .nil))))))))))
noncomputable def F_l_number (Z : Zs) : List D → M S := runF (b_l_number Z) 4 1
theorem F_l_number_eq {Z : Zs} {x0 : D} : F_l_number Z [x0] = fin ((b_l_number Z).f [.d x0, .un, .un, .un]) := by kernel_rfl
def N_l_read : List Str := ["_law_text_here", "_law_number_here", "_law_at", "_law_first", "_law_last", "_law_good"]
noncomputable def b_l_read_l1 (Z : Zs) : SS (HY Z) :=
  (.seq (.setD 3 (.call (F_l_number Z) (.cons (.sl (.var 0) .none (.some (.var 2))) .nil)))
  (.seq (.setD 4 (.call (F_l_number Z) (.cons (.sl (.var 0) (.some (.op oAdd (.var 2) (.int 2))) .none) .nil)))
  (.seq (.setD 5 (.andE (.op oEq (.sl (.var 0) (.some (.var 2)) (.some (.op oAdd (.var 2) (.int 2)))) (.str "..")) (.orE (.op oNotN (.var 3) .non) (.op oEq (.var 2) (.int 0)))))
  (.ite (.and (.tru (.var 5)) (.or (.of (.op oNotN (.var 4) .non)) (.of (.op oEq (.sl (.var 0) (.some (.op oAdd (.var 2) (.int 2))) .none) (.str "")))))
  (.ite (.or (.of (.op oIsN (.var 3) .non)) (.or (.of (.op oIsN (.var 4) .non)) (.of (.op oLt (.var 3) (.var 4)))))
  (.ret (.tup (.cons (.var 3) (.cons (.var 4) .nil))))
  .skip)
  .skip))))
noncomputable def b_l_read (Z : Zs) : SS (HY Z) :=
  (.seq (.setD 1 (.call (F_l_number Z) (.cons (.var 0) .nil)))
  (.seq (.ite (.of (.op oNotN (.var 1) .non))
  (.ret (.tup (.cons (.var 1) (.cons (.var 1) .nil))))
  .skip)
  (.seq (.forS (.rng1 (.cons (.op oSub (.cb bLen (.cons (.var 0) .nil)) (.int 1)) .nil)) (.name 2) [2, 3, 4, 5] (b_l_read_l1 Z))
  (.ret .non))))
noncomputable def F_l_read (Z : Zs) : List D → M S := runF (b_l_read Z) 6 1
theorem F_l_read_eq {Z : Zs} {x0 : D} : F_l_read Z [x0] = fin ((b_l_read Z).f [.d x0, .un, .un, .un, .un, .un]) := by kernel_rfl
def N_l_text : List Str := ["_law_span_here", "_law_ends", "_law_end"]
noncomputable def b_l_text (Z : Zs) : SS (HY Z) :=
  (.seq (.setD 1 (.lc (.seq (.var 0)) (.name 2) .yes (.ifE (.of (.op oIsN (.var 2) .non)) (.str "") (.cb bStr (.cons (.var 2) .nil))) [2]))
  (.seq (.ite (.and (.of (.op oEq (.op oIx (.var 1) (.int 0)) (.op oIx (.var 1) (.int 1)))) (.of (.op oNe (.op oIx (.var 1) (.int 0)) (.str ""))))
  (.ret (.op oIx (.var 1) (.int 0)))
  .skip)
  (.ret (.op oAdd (.op oAdd (.op oIx (.var 1) (.int 0)) (.str "..")) (.op oIx (.var 1) (.int 1))))))
noncomputable def F_l_text (Z : Zs) : List D → M S := runF (b_l_text Z) 3 1
theorem F_l_text_eq {Z : Zs} {x0 : D} : F_l_text Z [x0] = fin ((b_l_text Z).f [.d x0, .un, .un]) := by kernel_rfl
def N_l_bent : List Str := ["_law_text_here", "_law_cell_here", "_law_odd", "_law_at", "_law_sign", "_law_some"]
noncomputable def b_l_bent (Z : Zs) : SS (HY Z) :=
  (.seq (.setD 2 (.lst (.cons (.str "") (.cons (.str ".") (.cons (.str "..") (.cons (.str "...") (.cons (.str "....") (.cons (.str "--5") (.cons (.str "-0") (.cons (.str "00") (.cons (.str "05") (.cons (.str "5..5") (.cons (.str "5..4") (.cons (.str "-5..-7") (.cons (.str "-7..-5") (.cons (.str "+5") (.cons (.str " 5") (.cons (.str "5 ") .nil))))))))))))))))))
  (.seq (.setD 2 (.op oAdd (.var 2) (.lst (.cons (.str "5..") (.cons (.str "..-0") (.cons (.str "1.2") (.cons (.str "-") (.cons (.str "..--1") (.cons (.str "1_0") (.cons (.str "..") (.cons (.str "0") (.cons (.str "-1") (.cons (.str "0..1") (.cons (.str "1e3") (.cons (.str "x") (.cons (.str "..x") .nil))))))))))))))))
  (.seq (.setD 2 (.op oAdd (.var 2) (.lst (.cons (.str "5....6") (.cons (.str "-..5") .nil)))))
  (.seq (.setD 3 (.op oMod (.op oDiv (.var 1) (.int 5)) (.op oAdd (.cb bLen (.cons (.var 0) .nil)) (.int 1))))
  (.seq (.setD 4 (.op oIx (.str "0123456789-. +") (.op oMod (.op oDiv (.var 1) (.int 500)) (.int 14))))
  (.seq (.set 5 (.lst (.cons (.op oIx (.var 2) (.op oMod (.op oDiv (.var 1) (.int 5)) (.int 31))) (.cons (.var 0) (.cons (.op oAdd (.op oAdd (.sl (.var 0) .none (.some (.var 3))) (.var 4)) (.sl (.var 0) (.some (.var 3)) .none)) .nil)))))
  (.seq (.app 5 (.op oAdd (.sl (.var 0) .none (.some (.var 3))) (.sl (.var 0) (.some (.op oAdd (.var 3) (.int 1))) .none)))
  (.seq (.app 5 (.op oAdd (.op oAdd (.sl (.var 0) .none (.some (.var 3))) (.var 4)) (.sl (.var 0) (.some (.op oAdd (.var 3) (.int 1))) .none)))
  (.frz 5 (.ret (.op oIx (.var 5) (.op oMod (.var 1) (.int 5)))))))))))))
noncomputable def F_l_bent (Z : Zs) : List D → M S := runF (b_l_bent Z) 6 2
theorem F_l_bent_eq {Z : Zs} {x0 x1 : D} : F_l_bent Z [x0, x1] = fin ((b_l_bent Z).f [.d x0, .d x1, .un, .un, .un, .un]) := by kernel_rfl
def N_law : List Str := ["_law_script", "_law_k", "_law_cell_here", "_law_span_here", "_law_text_here", "_law_number_here", "_law_bent_here"]
noncomputable def b_law_c3 (Z : Zs) : SS (HY Z) :=
  (.seq (.setD 6 (.call (F_l_bent Z) (.cons (.op oIx (.lst (.cons (.var 4) (.cons (.cb bStr (.cons (.var 5) .nil)) .nil))) (.op oMod (.op oDiv (.var 2) (.int 24)) (.int 2))) (.cons (.call (F_l_cell Z) (.cons (.var 0) (.cons (.op oAdd (.op oMul (.int 3) (.var 1)) (.int 2)) .nil))) .nil))))
  (.seq (.ite (.not (.tru (.call (F_l_alike Z) (.cons (.call (F_span_by Z) (.cons (.var 6) .nil)) (.cons (.call (F_l_read Z) (.cons (.var 6) .nil)) .nil)))))
  (.ret (.bl false))
  .skip)
  (.ite (.not (.tru (.call (F_l_alike Z) (.cons (.call (F_number_by Z) (.cons (.var 6) .nil)) (.cons (.call (F_l_number Z) (.cons (.var 6) .nil)) .nil)))))
  (.ret (.bl false))
  .skip)))
noncomputable def b_law_c2 (Z : Zs) : SS (HY Z) :=
  (.seq (.setD 5 (.op oMul (.call (F_l_place Z) (.cons (.call (F_l_cell Z) (.cons (.var 0) (.cons (.op oAdd (.op oMul (.int 3) (.var 1)) (.int 2)) .nil))) .nil)) (.op oAdd (.op oMul (.var 2) (.var 2)) (.int 1))))
  (.seq (.ite (.or (.of (.op oNe (.call (F_number_text Z) (.cons (.var 5) .nil)) (.cb bStr (.cons (.var 5) .nil)))) (.not (.tru (.call (F_l_alike Z) (.cons (.call (F_number_by Z) (.cons (.cb bStr (.cons (.var 5) .nil)) .nil)) (.cons (.var 5) .nil))))))
  (.ret (.bl false))
  .skip)
  (b_law_c3 Z)))
noncomputable def b_law_c1 (Z : Zs) : SS (HY Z) :=
  (.seq (.setD 4 (.call (F_span_text Z) (.cons (.var 3) .nil)))
  (.seq (.ite (.or (.of (.op oNe (.var 4) (.call (F_l_text Z) (.cons (.var 3) .nil)))) (.not (.tru (.call (F_l_alike Z) (.cons (.call (F_span_by Z) (.cons (.var 4) .nil)) (.cons (.var 3) .nil))))))
  (.ret (.bl false))
  .skip)
  (b_law_c2 Z)))
noncomputable def b_law_l1 (Z : Zs) : SS (HY Z) :=
  (.seq (.setD 2 (.call (F_l_cell Z) (.cons (.var 0) (.cons (.op oMul (.int 3) (.var 1)) .nil))))
  (.seq (.setD 3 (.call (F_l_span Z) (.cons (.call (F_l_cell Z) (.cons (.var 0) (.cons (.op oAdd (.op oMul (.int 3) (.var 1)) (.int 1)) .nil))) (.cons (.call (F_l_place Z) (.cons (.var 2) .nil)) .nil))))
  (.seq (.ite (.of (.op oEq (.op oMod (.op oDiv (.var 2) (.int 6)) (.int 4)) (.int 1)))
  (.setD 3 (.tup (.cons (.op oIx (.var 3) (.int 0)) (.cons (.ifE (.of (.op oIsN (.op oIx (.var 3) (.int 1)) .non)) .non (.op oAdd (.op oAdd (.op oIx (.var 3) (.int 1)) (.op oPow (.int 10) (.int 40))) (.var 2))) .nil))))
  .skip)
  (b_law_c1 Z))))
noncomputable def b_law (Z : Zs) : SS (HY Z) :=
  (.seq (.forS (.rng1 (.cons (.cb bMax2 (.cons (.int 1) (.cons (.cb bMin2 (.cons (.cb bLen (.cons (.var 0) .nil)) (.cons (.int 63) .nil))) .nil))) .nil)) (.name 1) [1, 2, 3, 4, 5, 6] (b_law_l1 Z))
  (.ret (.bl true)))
noncomputable def F_law (Z : Zs) : List D → M S := runF (b_law Z) 7 1
theorem F_law_eq {Z : Zs} {x0 : D} : F_law Z [x0] = fin ((b_law Z).f [.d x0, .un, .un, .un, .un, .un, .un]) := by kernel_rfl
end Far
namespace Far
open PySem L2
noncomputable def t_number_text (K : PySem.W.Frag) (Z : Zs) : TS :=
  (tRet (tCB (rStrU) (tCons (tVar 0) tNil)))
theorem rd_number_text (K : PySem.W.Frag) (Z : Zs) (W : WX) : (b_number_text Z).t K W = t_number_text K Z := by kernel_rfl
noncomputable def t_number_by (K : PySem.W.Frag) (Z : Zs) : TS :=
  (tSeq (tAsg (tIf (tTru K (tM1 rSw (tVar 0) (tC (.str "-")))) (tSl (rSlU K) (tVar 0) (tPart (tC (.int 1))) tNoPart) (tVar 0)) (gName 1))
  (tSeq (tIfS (tOr (tTest (tOp (rEqU K) (tVar 1) (tC (.str "")))) (tNot (tTru K (tCB (rAll K) (tCons (tLc (iStr (tVar 1)) (gName 2) tYes (tOp (rInU K) (tVar 2) (tC (.str "0123456789"))) [2]) tNil)))))
  (tRet (tC .non))
  tNext)
  (tSeq (tIfS (tAnd (tTest (tOp (rEqU K) (tOp (rIx K) (tVar 1) (tC (.int 0))) (tC (.str "0")))) (tTest (tOp (rNeU K) (tVar 0) (tC (.str "0")))))
  (tRet (tC .non))
  tNext)
  (tRet (tIf (tTru K (tM1 rSw (tVar 0) (tC (.str "-")))) (tUn (rU fun i => .int (-i)) (tCB (rIntU) (tCons (tVar 1) tNil))) (tCB (rIntU) (tCons (tVar 1) tNil)))))))
theorem rd_number_by (K : PySem.W.Frag) (Z : Zs) (W : WX) : (b_number_by Z).t K W = t_number_by K Z := by kernel_rfl
noncomputable def t_end_text (K : PySem.W.Frag) (Z : Zs) : TS :=
  (tSeq (tIfS (tTest (tOp (rIsN) (tVar 0) (tC .non)))
  (tRet (tC (.str "")))
  tNext)
  (tRet (tCall (spD K (RF (F_number_text Z))) [] E0 (tCons (tVar 0) tNil))))
theorem rd_end_text (K : PySem.W.Frag) (Z : Zs) (W : WX) : (b_end_text Z).t K W = t_end_text K Z := by kernel_rfl
noncomputable def t_span_text (K : PySem.W.Frag) (Z : Zs) : TS :=
  (tSeq (tAsg (tVar 0) (gSeq K 2 (gCons (gName 1) (gCons (gName 2) gNil))))
  (tSeq (tIfS (tAnd (tTest (tOp (rNotN) (tVar 1) (tC .non))) (tTest (tOp (rEqU K) (tVar 1) (tVar 2))))
  (tRet (tCall (spD K (RF (F_number_text Z))) [] E0 (tCons (tVar 1) tNil)))
  tNext)
  (tRet (tOp (rAddU K) (tOp (rAddU K) (tCall (spD K (RF (F_end_text Z))) [] E0 (tCons (tVar 1) tNil)) (tC (.str ".."))) (tCall (spD K (RF (F_end_text Z))) [] E0 (tCons (tVar 2) tNil))))))
theorem rd_span_text (K : PySem.W.Frag) (Z : Zs) (W : WX) : (b_span_text Z).t K W = t_span_text K Z := by kernel_rfl
noncomputable def t_span_by (K : PySem.W.Frag) (Z : Zs) : TS :=
  (tSeq (tAsg (tM1 rPart (tVar 0) (tC (.str ".."))) (gSeq K 3 (gCons (gName 1) (gCons (gName 2) (gCons (gName 3) gNil)))))
  (tSeq (tAsg (tCall (spD K (RF (F_number_by Z))) [] E0 (tCons (tVar 1) tNil)) (gName 4))
  (tSeq (tAsg (tCall (spD K (RF (F_number_by Z))) [] E0 (tCons (tVar 3) tNil)) (gName 5))
  (tSeq (tIfS (tTest (tOp (rEqU K) (tVar 2) (tC (.str ""))))
  (tRet (tIf (tTest (tOp (rIsN) (tVar 4) (tC .non))) (tC .non) (tTupP (tCons (tVar 4) (tCons (tVar 4) tNil)))))
  tNext)
  (tSeq (tIfS (tOr (tAnd (tTest (tOp (rIsN) (tVar 4) (tC .non))) (tTest (tOp (rNeU K) (tVar 1) (tC (.str ""))))) (tAnd (tTest (tOp (rIsN) (tVar 5) (tC .non))) (tTest (tOp (rNeU K) (tVar 3) (tC (.str ""))))))
  (tRet (tC .non))
  tNext)
  (tSeq (tIfS (tAnd (tTest (tOp (rNotN) (tVar 4) (tC .non))) (tAnd (tTest (tOp (rNotN) (tVar 5) (tC .non))) (tTest (tOp (rI0 fun i j => .bl (decide (j ≤ i))) (tVar 4) (tVar 5)))))
  (tRet (tC .non))
  tNext)
  (tRet (tTupP (tCons (tVar 4) (tCons (tVar 5) tNil))))))))))
theorem rd_span_by (K : PySem.W.Frag) (Z : Zs) (W : WX) : (b_span_by Z).t K W = t_span_by K Z := by kernel_rfl
noncomputable def t_l_cell (K : PySem.W.Frag) (Z : Zs) : TS :=
  (tSeq (tAsg (tOp (rAddU K) (tOp (rMulU K) (tC (.int 7919)) (tVar 1)) (tC (.int 11))) (gName 2))
  (tSeq (tIfS (tTest (tOp (rNeU K) (tVar 0) (tLst tNil)))
  (tSeq (tAsg (tOp (rMulU K) (tOp (rIx K) (tVar 0) (tOp (rI (fun _ j => 0 < j) fun i j => .int (i % j)) (tVar 1) (tCB (rLenU K) (tCons (tVar 0) tNil)))) (tC (.int 48271))) (gName 2))
  (tAsg (tOp (rAddU K) (tOp (rAddU K) (tVar 2) (tOp (rMulU K) (tC (.int 104729)) (tVar 1))) (tOp (rMulU K) (tOp (rI CDivW fun i j => .int (i / j)) (tVar 1) (tCB (rLenU K) (tCons (tVar 0) tNil))) (tC (.int 7919)))) (gName 2)))
  tNext)
  (tSeq (tAsg (tOp (rI (fun _ j => 0 < j) fun i j => .int (i % j)) (tVar 2) (tC (.int 2147483647))) (gName 3))
  (tSeq (tAsg (tOp (rI (fun _ j => 0 < j) fun i j => .int (i % j)) (tOp (rMulU K) (tVar 3) (tVar 3)) (tC (.int 2147483629))) (gName 3))
  (tRet (tOp (rI (fun _ j => 0 < j) fun i j => .int (i % j)) (tOp (rAddU K) (tOp (rAddU K) (tOp (rMulU K) (tVar 3) (tVar 3)) (tOp (rMulU K) (tC (.int 69621)) (tVar 3))) (tVar 1)) (tC (.int 2147483587))))))))
theorem rd_l_cell (K : PySem.W.Frag) (Z : Zs) (W : WX) : (b_l_cell Z).t K W = t_l_cell K Z := by kernel_rfl
noncomputable def t_l_place (K : PySem.W.Frag) (Z : Zs) : TS :=
  (tSeq (tAsg (tC (.int 1)) (gName 1))
  (tSeq (tFor (iRngW1 (tCons (tC (.int 4)) tNil)) (gName 2)
  (tAsg (tOp (rI (fun _ j => 0 < j) fun i j => .int (i % j)) (tOp (rMulU K) (tVar 1) (tOp (rAddU K) (tVar 0) (tVar 2))) (tOp (rI CPow fun i j => .int (i ^ j.toNat)) (tC (.int 10)) (tC (.int 30)))) (gName 1)))
  (tRet (tOp (rIx K) (tLst (tCons (tOp (rI0 fun i j => .int (i - j)) (tOp (rI (fun _ j => 0 < j) fun i j => .int (i % j)) (tOp (rI CDivW fun i j => .int (i / j)) (tVar 0) (tC (.int 6))) (tC (.int 21))) (tC (.int 10))) (tCons (tOp (rI0 fun i j => .int (i - j)) (tOp (rI (fun _ j => 0 < j) fun i j => .int (i % j)) (tOp (rI CDivW fun i j => .int (i / j)) (tVar 0) (tC (.int 6))) (tC (.int 21))) (tC (.int 10))) (tCons (tOp (rI0 fun i j => .int (i - j)) (tOp (rI (fun _ j => 0 < j) fun i j => .int (i % j)) (tOp (rI CDivW fun i j => .int (i / j)) (tVar 0) (tC (.int 6))) (tC (.int 201))) (tC (.int 100))) (tCons (tVar 1) (tCons (tUn (rU fun i => .int (-i)) (tVar 1)) (tCons (tC (.int 0)) tNil))))))) (tOp (rI (fun _ j => 0 < j) fun i j => .int (i % j)) (tVar 0) (tC (.int 6)))))))
theorem rd_l_place (K : PySem.W.Frag) (Z : Zs) (W : WX) : (b_l_place Z).t K W = t_l_place K Z := by kernel_rfl
noncomputable def t_l_span (K : PySem.W.Frag) (Z : Zs) : TS :=
  (tSeq (tAsg (tOp (rI0 fun i j => .int (i - j)) (tOp (rAddU K) (tVar 1) (tOp (rI (fun _ j => 0 < j) fun i j => .int (i % j)) (tOp (rI CDivW fun i j => .int (i / j)) (tVar 0) (tC (.int 16))) (tC (.int 61)))) (tC (.int 30))) (gName 2))
  (tSeq (tAsg (tOp (rAddU K) (tVar 2) (tOp (rIx K) (tLst (tCons (tC (.int 0)) (tCons (tC (.int 1)) (tCons (tOp (rI (fun _ j => 0 < j) fun i j => .int (i % j)) (tOp (rI CDivW fun i j => .int (i / j)) (tVar 0) (tC (.int 1000))) (tC (.int 4))) (tCons (tOp (rI (fun _ j => 0 < j) fun i j => .int (i % j)) (tOp (rI CDivW fun i j => .int (i / j)) (tVar 0) (tC (.int 1000))) (tC (.int 30))) tNil))))) (tOp (rI (fun _ j => 0 < j) fun i j => .int (i % j)) (tOp (rI CDivW fun i j => .int (i / j)) (tVar 0) (tC (.int 976))) (tC (.int 4))))) (gName 3))
  (tSeq (tIfS (tTest (tOp (rEqU K) (tOp (rI (fun _ j => 0 < j) fun i j => .int (i % j)) (tVar 0) (tC (.int 16))) (tC (.int 0))))
  (tRet (tTupP (tCons (tC .non) (tCons (tVar 3) tNil))))
  tNext)
  (tSeq (tIfS (tTest (tOp (rEqU K) (tOp (rI (fun _ j => 0 < j) fun i j => .int (i % j)) (tVar 0) (tC (.int 16))) (tC (.int 1))))
  (tRet (tTupP (tCons (tVar 2) (tCons (tC .non) tNil))))
  tNext)
  (tSeq (tIfS (tTest (tOp (rEqU K) (tOp (rI (fun _ j => 0 < j) fun i j => .int (i % j)) (tVar 0) (tC (.int 160))) (tC (.int 2))))
  (tRet (tTupP (tCons (tC .non) (tCons (tC .non) tNil))))
  tNext)
  (tRet (tTupP (tCons (tVar 2) (tCons (tVar 3) tNil)))))))))
theorem rd_l_span (K : PySem.W.Frag) (Z : Zs) (W : WX) : (b_l_span Z).t K W = t_l_span K Z := by kernel_rfl
noncomputable def t_l_alike (K : PySem.W.Frag) (Z : Zs) (FF : List D → M S) : TS :=
  (tSeq (tIfS (tTru K (tCB (rIsU K) (tCons (tVar 1) (tCons (tTupP (tCons (tC (.ty "list")) (tCons (tC (.ty "tuple")) tNil))) tNil))))
  (tSeq (tIfS (tOr (tTest (tOp (rNeU K) (tCB (rIsU K) (tCons (tVar 0) (tCons (tC (.ty "tuple")) tNil))) (tCB (rIsU K) (tCons (tVar 1) (tCons (tC (.ty "tuple")) tNil))))) (tNot (tTru K (tCB (rIsU K) (tCons (tVar 0) (tCons (tTupP (tCons (tC (.ty "list")) (tCons (tC (.ty "tuple")) tNil))) tNil))))))
  (tRet (tC (.bl false)))
  tNext)
  (tSeq (tIfS (tTest (tOp (rNeU K) (tCB (rLenU K) (tCons (tVar 0) tNil)) (tCB (rLenU K) (tCons (tVar 1) tNil))))
  (tRet (tC (.bl false)))
  tNext)
  (tRet (tCB (rAll K) (tCons (tLc (iRngW1 (tCons (tCB (rLenU K) (tCons (tVar 1) tNil)) tNil)) (gName 2) tYes (tCall (spD K (RF FF)) [] E0 (tCons (tOp (rIx K) (tVar 0) (tVar 2)) (tCons (tOp (rIx K) (tVar 1) (tVar 2)) tNil))) [2]) tNil)))))
  tNext)
  (tSeq (tIfS (tOr (tTest (tOp (rNeU K) (tCB (rIsU K) (tCons (tVar 0) (tCons (tC (.ty "bool")) tNil))) (tCB (rIsU K) (tCons (tVar 1) (tCons (tC (.ty "bool")) tNil))))) (tTest (tOp (rNeU K) (tOp (rIsN) (tVar 0) (tC .non)) (tOp (rIsN) (tVar 1) (tC .non)))))
  (tRet (tC (.bl false)))
  tNext)
  (tRet (tOp (rEqU K) (tVar 0) (tVar 1)))))
theorem rd_l_alike (K : PySem.W.Frag) (Z : Zs) (W : WX) (FF : List D → M S) : (b_l_alike Z FF).t K W = t_l_alike K Z FF := by kernel_rfl
noncomputable def t_l_number (K : PySem.W.Frag) (Z : Zs) : TS :=
  (tSeq (tAsg (tVar 0) (gName 1))
  (tSeq (tIfS (tTest (tOp (rEqU K) (tSl (rSlU K) (tVar 0) tNoPart (tPart (tC (.int 1)))) (tC (.str "-"))))
  (tAsg (tSl (rSlU K) (tVar 0) (tPart (tC (.int 1))) tNoPart) (gName 1))
  tNext)
  (tSeq (tIfS (tOr (tTest (tOp (rEqU K) (tVar 1) (tC (.str "")))) (tTest (tOp (rNeU K) (tLc (iStr (tVar 1)) (gName 2) (tTest (tOp (rNotInU K) (tVar 2) (tC (.str "0123456789")))) (tVar 2) [2]) (tLst tNil))))
  (tRet (tC .non))
  tNext)
  (tSeq (tIfS (tAnd (tTest (tOp (rEqU K) (tOp (rIx K) (tVar 1) (tC (.int 0))) (tC (.str "0")))) (tTest (tOp (rNeU K) (tVar 0) (tC (.str "0")))))
  (tRet (tC .non))
  tNext)
  (tSeq (tAsg (tC (.int 0)) (gName 3))
  (tSeq (tFor (iStr (tVar 1)) (gName 2)
  (tAsg (tOp (rAddU K) (tOp (rMulU K) (tC (.int 10)) (tVar 3)) (tM1 rSIdx (tC (.str "0123456789")) (tVar 2))) (gName 3)))
  (tRet (tOp (rIx K) (tLst (tCons (tVar 3) (tCons (tUn (rU fun i => .int (-i)) (tVar 3)) tNil))) (tCB (rIntU) (tCons (tOp (rEqU K) (tSl (rSlU K) (tVar 0) tNoPart (tPart (tC (.int 1)))) (tC (.str "-"))) tNil))))))))))
theorem rd_l_number (K : PySem.W.Frag) (Z : Zs) (W : WX) : (b_l_number Z).t K W = t_l_number K Z := by kernel_rfl
noncomputable def t_l_read (K : PySem.W.Frag) (Z : Zs) : TS :=
  (tSeq (tAsg (tCall (spD K (RF (F_l_number Z))) [] E0 (tCons (tVar 0) tNil)) (gName 1))
  (tSeq (tIfS (tTest (tOp (rNotN) (tVar 1) (tC .non)))
  (tRet (tTupP (tCons (tVar 1) (tCons (tVar 1) tNil))))
  tNext)
  (tSeq (tFor (iRngW1 (tCons (tOp (rI0 fun i j => .int (i - j)) (tCB (rLenU K) (tCons (tVar 0) tNil)) (tC (.int 1))) tNil)) (gName 2)
  (tSeq (tAsg (tCall (spD K (RF (F_l_number Z))) [] E0 (tCons (tSl (rSlU K) (tVar 0) tNoPart (tPart (tVar 2))) tNil)) (gName 3))
  (tSeq (tAsg (tCall (spD K (RF (F_l_number Z))) [] E0 (tCons (tSl (rSlU K) (tVar 0) (tPart (tOp (rAddU K) (tVar 2) (tC (.int 2)))) tNoPart) tNil)) (gName 4))
  (tSeq (tAsg (tAndT K (tOp (rEqU K) (tSl (rSlU K) (tVar 0) (tPart (tVar 2)) (tPart (tOp (rAddU K) (tVar 2) (tC (.int 2))))) (tC (.str ".."))) (tOrT K (tOp (rNotN) (tVar 3) (tC .non)) (tOp (rEqU K) (tVar 2) (tC (.int 0))))) (gName 5))
  (tIfS (tAnd (tTru K (tVar 5)) (tOr (tTest (tOp (rNotN) (tVar 4) (tC .non))) (tTest (tOp (rEqU K) (tSl (rSlU K) (tVar 0) (tPart (tOp (rAddU K) (tVar 2) (tC (.int 2)))) tNoPart) (tC (.str ""))))))
  (tIfS (tOr (tTest (tOp (rIsN) (tVar 3) (tC .non))) (tOr (tTest (tOp (rIsN) (tVar 4) (tC .non))) (tTest (tOp (rI0 fun i j => .bl (decide (i < j))) (tVar 3) (tVar 4)))))
  (tRet (tTupP (tCons (tVar 3) (tCons (tVar 4) tNil))))
  tNext)
  tNext)))))
  (tRet (tC .non)))))
theorem rd_l_read (K : PySem.W.Frag) (Z : Zs) (W : WX) : (b_l_read Z).t K W = t_l_read K Z := by kernel_rfl
noncomputable def t_l_text (K : PySem.W.Frag) (Z : Zs) : TS :=
  (tSeq (tAsg (tLc (iSeq K (tVar 0)) (gName 2) tYes (tIf (tTest (tOp (rIsN) (tVar 2) (tC .non))) (tC (.str "")) (tCB (rStrU) (tCons (tVar 2) tNil))) [2]) (gName 1))
  (tSeq (tIfS (tAnd (tTest (tOp (rEqU K) (tOp (rIx K) (tVar 1) (tC (.int 0))) (tOp (rIx K) (tVar 1) (tC (.int 1))))) (tTest (tOp (rNeU K) (tOp (rIx K) (tVar 1) (tC (.int 0))) (tC (.str "")))))
  (tRet (tOp (rIx K) (tVar 1) (tC (.int 0))))
  tNext)
  (tRet (tOp (rAddU K) (tOp (rAddU K) (tOp (rIx K) (tVar 1) (tC (.int 0))) (tC (.str ".."))) (tOp (rIx K) (tVar 1) (tC (.int 1)))))))
theorem rd_l_text (K : PySem.W.Frag) (Z : Zs) (W : WX) : (b_l_text Z).t K W = t_l_text K Z := by kernel_rfl
noncomputable def t_l_bent (K : PySem.W.Frag) (Z : Zs) : TS :=
  (tSeq (tAsg (tLst (tCons (tC (.str "")) (tCons (tC (.str ".")) (tCons (tC (.str "..")) (tCons (tC (.str "...")) (tCons (tC (.str "....")) (tCons (tC (.str "--5")) (tCons (tC (.str "-0")) (tCons (tC (.str "00")) (tCons (tC (.str "05")) (tCons (tC (.str "5..5")) (tCons (tC (.str "5..4")) (tCons (tC (.str "-5..-7")) (tCons (tC (.str "-7..-5")) (tCons (tC (.str "+5")) (tCons (tC (.str " 5")) (tCons (tC (.str "5 ")) tNil))))))))))))))))) (gName 2))
  (tSeq (tAsg (tOp (rAddU K) (tVar 2) (tLst (tCons (tC (.str "5..")) (tCons (tC (.str "..-0")) (tCons (tC (.str "1.2")) (tCons (tC (.str "-")) (tCons (tC (.str "..--1")) (tCons (tC (.str "1_0")) (tCons (tC (.str "..")) (tCons (tC (.str "0")) (tCons (tC (.str "-1")) (tCons (tC (.str "0..1")) (tCons (tC (.str "1e3")) (tCons (tC (.str "x")) (tCons (tC (.str "..x")) tNil))))))))))))))) (gName 2))
  (tSeq (tAsg (tOp (rAddU K) (tVar 2) (tLst (tCons (tC (.str "5....6")) (tCons (tC (.str "-..5")) tNil)))) (gName 2))
  (tSeq (tAsg (tOp (rI (fun _ j => 0 < j) fun i j => .int (i % j)) (tOp (rI CDivW fun i j => .int (i / j)) (tVar 1) (tC (.int 5))) (tOp (rAddU K) (tCB (rLenU K) (tCons (tVar 0) tNil)) (tC (.int 1)))) (gName 3))
  (tSeq (tAsg (tOp (rIx K) (tC (.str "0123456789-. +")) (tOp (rI (fun _ j => 0 < j) fun i j => .int (i % j)) (tOp (rI CDivW fun i j => .int (i / j)) (tVar 1) (tC (.int 500))) (tC (.int 14)))) (gName 4))
  (tSeq (tAsg (tLst (tCons (tOp (rIx K) (tVar 2) (tOp (rI (fun _ j => 0 < j) fun i j => .int (i % j)) (tOp (rI CDivW fun i j => .int (i / j)) (tVar 1) (tC (.int 5))) (tC (.int 31)))) (tCons (tVar 0) (tCons (tOp (rAddU K) (tOp (rAddU K) (tSl (rSlU K) (tVar 0) tNoPart (tPart (tVar 3))) (tVar 4)) (tSl (rSlU K) (tVar 0) (tPart (tVar 3)) tNoPart)) tNil)))) (gName 5))
  (tSeq (tDrop (tBM K "list" rAppend (tVar 5) (tCons (tOp (rAddU K) (tSl (rSlU K) (tVar 0) tNoPart (tPart (tVar 3))) (tSl (rSlU K) (tVar 0) (tPart (tOp (rAddU K) (tVar 3) (tC (.int 1)))) tNoPart)) tNil)))
  (tSeq (tDrop (tBM K "list" rAppend (tVar 5) (tCons (tOp (rAddU K) (tOp (rAddU K) (tSl (rSlU K) (tVar 0) tNoPart (tPart (tVar 3))) (tVar 4)) (tSl (rSlU K) (tVar 0) (tPart (tOp (rAddU K) (tVar 3) (tC (.int 1)))) tNoPart)) tNil)))
  (tRet (tOp (rIx K) (tVar 5) (tOp (rI (fun _ j => 0 < j) fun i j => .int (i % j)) (tVar 1) (tC (.int 5)))))))))))))
theorem rd_l_bent (K : PySem.W.Frag) (Z : Zs) (W : WX) : (b_l_bent Z).t K W = t_l_bent K Z := by kernel_rfl
noncomputable def t_law (K : PySem.W.Frag) (Z : Zs) : TS :=
  (tSeq (tFor (iRngW1 (tCons (tCB (rMx2) (tCons (tC (.int 1)) (tCons (tCB (rMn2) (tCons (tCB (rLenU K) (tCons (tVar 0) tNil)) (tCons (tC (.int 63)) tNil))) tNil))) tNil)) (gName 1)
  (tSeq (tAsg (tCall (spD K (RF (F_l_cell Z))) [] E0 (tCons (tVar 0) (tCons (tOp (rMulU K) (tC (.int 3)) (tVar 1)) tNil))) (gName 2))
  (tSeq (tAsg (tCall (spD K (RF (F_l_span Z))) [] E0 (tCons (tCall (spD K (RF (F_l_cell Z))) [] E0 (tCons (tVar 0) (tCons (tOp (rAddU K) (tOp (rMulU K) (tC (.int 3)) (tVar 1)) (tC (.int 1))) tNil))) (tCons (tCall (spD K (RF (F_l_place Z))) [] E0 (tCons (tVar 2) tNil)) tNil))) (gName 3))
  (tSeq (tIfS (tTest (tOp (rEqU K) (tOp (rI (fun _ j => 0 < j) fun i j => .int (i % j)) (tOp (rI CDivW fun i j => .int (i / j)) (tVar 2) (tC (.int 6))) (tC (.int 4))) (tC (.int 1))))
  (tAsg (tTupP (tCons (tOp (rIx K) (tVar 3) (tC (.int 0))) (tCons (tIf (tTest (tOp (rIsN) (tOp (rIx K) (tVar 3) (tC (.int 1))) (tC .non))) (tC .non) (tOp (rAddU K) (tOp (rAddU K) (tOp (rIx K) (tVar 3) (tC (.int 1))) (tOp (rI CPow fun i j => .int (i ^ j.toNat)) (tC (.int 10)) (tC (.int 40)))) (tVar 2))) tNil))) (gName 3))
  tNext)
  (tSeq (tAsg (tCall (spD K (RF (F_span_text Z))) [] E0 (tCons (tVar 3) tNil)) (gName 4))
  (tSeq (tIfS (tOr (tTest (tOp (rNeU K) (tVar 4) (tCall (spD K (RF (F_l_text Z))) [] E0 (tCons (tVar 3) tNil)))) (tNot (tTru K (tCall (spD K (RF (F_l_alike Z))) [] E0 (tCons (tCall (spD K (RF (F_span_by Z))) [] E0 (tCons (tVar 4) tNil)) (tCons (tVar 3) tNil))))))
  (tRet (tC (.bl false)))
  tNext)
  (tSeq (tAsg (tOp (rMulU K) (tCall (spD K (RF (F_l_place Z))) [] E0 (tCons (tCall (spD K (RF (F_l_cell Z))) [] E0 (tCons (tVar 0) (tCons (tOp (rAddU K) (tOp (rMulU K) (tC (.int 3)) (tVar 1)) (tC (.int 2))) tNil))) tNil)) (tOp (rAddU K) (tOp (rMulU K) (tVar 2) (tVar 2)) (tC (.int 1)))) (gName 5))
  (tSeq (tIfS (tOr (tTest (tOp (rNeU K) (tCall (spD K (RF (F_number_text Z))) [] E0 (tCons (tVar 5) tNil)) (tCB (rStrU) (tCons (tVar 5) tNil)))) (tNot (tTru K (tCall (spD K (RF (F_l_alike Z))) [] E0 (tCons (tCall (spD K (RF (F_number_by Z))) [] E0 (tCons (tCB (rStrU) (tCons (tVar 5) tNil)) tNil)) (tCons (tVar 5) tNil))))))
  (tRet (tC (.bl false)))
  tNext)
  (tSeq (tAsg (tCall (spD K (RF (F_l_bent Z))) [] E0 (tCons (tOp (rIx K) (tLst (tCons (tVar 4) (tCons (tCB (rStrU) (tCons (tVar 5) tNil)) tNil))) (tOp (rI (fun _ j => 0 < j) fun i j => .int (i % j)) (tOp (rI CDivW fun i j => .int (i / j)) (tVar 2) (tC (.int 24))) (tC (.int 2)))) (tCons (tCall (spD K (RF (F_l_cell Z))) [] E0 (tCons (tVar 0) (tCons (tOp (rAddU K) (tOp (rMulU K) (tC (.int 3)) (tVar 1)) (tC (.int 2))) tNil))) tNil))) (gName 6))
  (tSeq (tIfS (tNot (tTru K (tCall (spD K (RF (F_l_alike Z))) [] E0 (tCons (tCall (spD K (RF (F_span_by Z))) [] E0 (tCons (tVar 6) tNil)) (tCons (tCall (spD K (RF (F_l_read Z))) [] E0 (tCons (tVar 6) tNil)) tNil)))))
  (tRet (tC (.bl false)))
  tNext)
  (tIfS (tNot (tTru K (tCall (spD K (RF (F_l_alike Z))) [] E0 (tCons (tCall (spD K (RF (F_number_by Z))) [] E0 (tCons (tVar 6) tNil)) (tCons (tCall (spD K (RF (F_l_number Z))) [] E0 (tCons (tVar 6) tNil)) tNil)))))
  (tRet (tC (.bl false)))
  tNext)))))))))))
  (tRet (tC (.bl true))))
theorem rd_law (K : PySem.W.Frag) (Z : Zs) (W : WX) : (b_law Z).t K W = t_law K Z := by kernel_rfl
end Far
namespace Far
open PySem L2
local macro_rules | `(tactic| walk_at "dd") => `(tactic| first | assumption | omega | (simp; done) | (simp only [List.length_map, List.length_append, List.length_cons, List.length_nil, List.length_take, List.length_drop, List.length_reverse, List.length_range, List.length_replicate]; omega))
/-! ### spans -/
abbrev isPl (x : D) : Bool := isTy x "int" && !isTy x "bool"
abbrev dE : Option Int → D
  | none => .non
  | some i => .int i
abbrev dS (s : Option Int × Option Int) : D := .tup [dE s.1, dE s.2]
abbrev isE (x : D) : Bool := isNon x || isPl x
def leE : D → D → Bool
  | .int i, .int j => decide (i ≤ j)
  | _, _ => true
def isSp : D → Bool
  | .tup [a, b] => isE a && isE b && leE a b
  | _ => false
def knownAll : D → Bool
  | .tup xs => xs.all known
  | .lst xs => xs.all known
  | x => known x
def hasS (s : Option Int × Option Int) (p : Int) : Bool := (match s.1 with | none => true | some a => decide (a ≤ p)) && (match s.2 with | none => true | some b => decide (p ≤ b))
def sizeS (s : Option Int × Option Int) : Option Int := match s.1, s.2 with | some a, some b => some (b - a + 1) | _, _ => none
def maxE : Option Int → Option Int → Option Int
  | none, b => b
  | a, none => a
  | some a, some b => some (max a b)
def minE : Option Int → Option Int → Option Int
  | none, b => b
  | a, none => a
  | some a, some b => some (min a b)
def comS (s t : Option Int × Option Int) : Option (Option Int × Option Int) :=
  let a := maxE s.1 t.1
  let b := minE s.2 t.2
  match a, b with
  | some i, some j => if j < i then none else some (a, b)
  | _, _ => some (a, b)
abbrev dO : Option (Option Int × Option Int) → D
  | none => .non
  | some s => dS s
/-! ### the law's own -/
def cell (ns : List Int) (k : Int) : Int :=
  let c := match ns with | [] => 7919 * k + 11 | _ => (ns.getD (k % ns.length).toNat 0 * 48271 + 104729 * k) + k / ns.length * 7919
  let m := c % 2147483647
  let m := m * m % 2147483629
  (m * m + 69621 * m + k) % 2147483587
theorem cell_pos (ns : List Int) (k : Int) : 0 ≤ cell ns k ∧ cell ns k < 2147483587 := by
  unfold cell
  exact ⟨Int.emod_nonneg _ (by decide), Int.emod_lt_of_pos _ (by decide)⟩
def farS (c : Int) (m : Int) : Nat → Int
  | 0 => 1
  | n + 1 => farS c m n * (c + n) % m
def placeL (c : Int) : List Int := [c / 6 % 21 - 10, c / 6 % 21 - 10, c / 6 % 201 - 100, farS c (10 ^ 30) 4, -farS c (10 ^ 30) 4, 0]
def place (c : Int) : Int := (placeL c).getD (c % 6).toNat 0
/-! ### values, wheels -/
abbrev vsD (ring : List (Option Int)) : List D := ring.map dE
def areV (x : D) (f : Int) : Bool := match x with
  | .tup ys => decide (f ≤ ys.length) && decide (ys.length ≤ 4000) && ys.all isE
  | .lst ys => decide (f ≤ ys.length) && decide (ys.length ≤ 4000) && ys.all isE
  | _ => false
def tell (ring : List (Option Int)) (p : Int) : Option Int := ring.getD (p % ring.length).toNat none
/-- data of so many levels of lists and tuples over plain values -/
def flatI : D → Bool
  | .non => true | .bl _ => true | .int _ => true | _ => false
def plD : Nat → D → Bool
  | 0, x => flatI x
  | n + 1, x => flatI x || (match x with | .tup ys => decide (ys.length ≤ 1000000) && ys.all (plD n) | .lst ys => decide (ys.length ≤ 1000000) && ys.all (plD n) | _ => false)
def valueL (c : Int) : List (Option Int) := [none, some 0, some 1, some 5, some (-1), some (c / 10 % 40 - 20), some (farS c (10 ^ 60) 7), some (-farS c (10 ^ 60) 7), none, some 1]
def valueF (c : Int) : Option Int := (valueL c).getD (c % 10).toNat none
def fewL : List (Option Int) := [none, some 0, some 1, some 5]
def ringItem (ns : List Int) (k c j : Int) : Option Int :=
  if c / 108 % 3 / 2 = 0 then fewL.getD (cell ns (k + 1 + j) % (([2, 3, 4] : List Int).getD (c / 36 % 3).toNat 0)).toNat none else valueF (cell ns (k + 1 + j))
def ringN (c : Int) : Nat := (1 + c % (([3, 6, 12] : List Int).getD (c / 12 % 3).toNat 0)).toNat
def ringB (ns : List Int) (k : Int) (m : Nat) : List (Option Int) := (List.range m).map fun (j : Nat) => ringItem ns k (cell ns k) j
def ringK (c : Int) : Int := ([1, 1, 2, 3] : List Int).getD (c / 324 % 4).toNat 0
def ringF (ns : List Int) (k : Int) : List (Option Int) := (List.replicate (ringK (cell ns k)).toNat (ringB ns k (ringN (cell ns k)))).flatten
theorem ringK_cases (c : Int) : ringK c = 1 ∨ ringK c = 2 ∨ ringK c = 3 := by
  unfold ringK
  have h0 : 0 ≤ c / 324 % 4 := Int.emod_nonneg _ (by decide)
  have h1 : c / 324 % 4 < 4 := Int.emod_lt_of_pos _ (by decide)
  have : c / 324 % 4 = 0 ∨ c / 324 % 4 = 1 ∨ c / 324 % 4 = 2 ∨ c / 324 % 4 = 3 := by omega
  rcases this with e | e | e | e <;> rw [e] <;> simp
theorem pick3 (l : List Int) (i a b d : Int) (e : l = [a, b, d]) : l.getD (i % 3).toNat 0 = a ∨ l.getD (i % 3).toNat 0 = b ∨ l.getD (i % 3).toNat 0 = d := by
  have h0 : 0 ≤ i % 3 := Int.emod_nonneg _ (by decide)
  have h1 : i % 3 < 3 := Int.emod_lt_of_pos _ (by decide)
  have : i % 3 = 0 ∨ i % 3 = 1 ∨ i % 3 = 2 := by omega
  subst e
  rcases this with e | e | e <;> rw [e] <;> simp
theorem ringN_in (c : Int) : 1 ≤ ringN c ∧ ringN c ≤ 12 := by
  unfold ringN
  rcases pick3 [3, 6, 12] (c / 12) 3 6 12 rfl with e | e | e <;> rw [e] <;> omega
theorem ringF_len (ns : List Int) (k : Int) : (ringF ns k).length = (ringK (cell ns k)).toNat * ringN (cell ns k) := by
  unfold ringF ringB
  simp
theorem ringF_in (ns : List Int) (k : Int) : 1 ≤ (ringF ns k).length ∧ (ringF ns k).length ≤ 36 := by
  rw [ringF_len]
  have h := ringN_in (cell ns k)
  rcases ringK_cases (cell ns k) with e | e | e <;> rw [e] <;> simp <;> omega
theorem ringF_ne (ns : List Int) (k : Int) : ringF ns k ≠ [] := fun e => by have := ringF_in ns k; rw [e] at this; simp at this
/-! ### the fewest values that tell the same -/
def fitsR (r : List (Option Int)) (m : Nat) : Bool := decide (r.length % m = 0) && decide (r = (List.replicate (r.length / m) (r.take m)).flatten)
def leastN (r : List (Option Int)) : Nat := (((List.range r.length).find? fun i => fitsR r (i + 1)).map (· + 1)).getD r.length
def leastR (r : List (Option Int)) : List (Option Int) := r.take (leastN r)
theorem fitsR_self {r : List (Option Int)} (h : r ≠ []) : fitsR r r.length = true := by
  have hl : 0 < r.length := List.length_pos_iff.mpr h
  unfold fitsR
  rw [Nat.mod_self, Nat.div_self hl]
  simp
theorem find_first {p : Nat → Bool} {n i : Nat} (hi : i < n) (h : p i = true) (hn : ∀ j, j < i → p j = false) : (List.range n).find? p = some i := by
  rw [List.find?_eq_some_iff_append]
  refine ⟨h, List.range i, (List.range' (i + 1) (n - i - 1)), ?_, fun a ha => ?_⟩
  · have e : n = i + (1 + (n - i - 1)) := by omega
    rw [List.range_eq_range', List.range_eq_range']
    conv => lhs; rw [e]
    rw [← List.range'_append_1, ← List.range'_append_1]
    simp
  · have := List.mem_range.mp ha
    rw [hn a this]; rfl
theorem leastN_eq {r : List (Option Int)} {i : Nat} (hi : i < r.length) (h : fitsR r (i + 1) = true) (hn : ∀ j, j < i → fitsR r (j + 1) = false) : leastN r = i + 1 := by
  unfold leastN
  rw [find_first (p := fun i => fitsR r (i + 1)) hi h hn]; rfl
theorem leastR_all {r : List (Option Int)} (hne : r ≠ []) (hn : ∀ j, j < r.length - 1 → fitsR r (j + 1) = false) : leastR r = r := by
  have hl : 0 < r.length := List.length_pos_iff.mpr hne
  have e : leastN r = r.length - 1 + 1 := leastN_eq (i := r.length - 1) (by omega) (by rw [Nat.sub_add_cancel hl]; exact fitsR_self hne) hn
  unfold leastR
  rw [e, Nat.sub_add_cancel hl, List.take_length]
theorem leastN_in {r : List (Option Int)} (hne : r ≠ []) : 1 ≤ leastN r ∧ leastN r ≤ r.length ∧ fitsR r (leastN r) = true := by
  have hl : 0 < r.length := List.length_pos_iff.mpr hne
  unfold leastN
  cases h : (List.range r.length).find? fun i => fitsR r (i + 1) with
  | none =>
    have := List.find?_eq_none.mp h (r.length - 1) (List.mem_range.mpr (by omega))
    rw [Nat.sub_add_cancel hl, fitsR_self hne] at this
    exact absurd rfl this
  | some i =>
    have h1 := List.find?_some h
    have h2 := List.mem_range.mp (List.mem_of_find?_eq_some h)
    exact ⟨by simp, by simp; omega, by simpa using h1⟩
theorem leastR_len {r : List (Option Int)} (hne : r ≠ []) : (leastR r).length = leastN r := by
  have := leastN_in hne
  unfold leastR; rw [List.length_take]; omega
theorem leastR_ne {r : List (Option Int)} (hne : r ≠ []) : leastR r ≠ [] := fun e => by
  have h := leastR_len hne
  have h2 := (leastN_in hne).1
  rw [e] at h; simp at h; omega
theorem leastR_le {r : List (Option Int)} (hne : r ≠ []) : (leastR r).length ≤ r.length := by rw [leastR_len hne]; exact (leastN_in hne).2.1
/-- what comes round after m values is told by the first m -/
theorem rep_get {α : Type} (t : List α) (k i : Nat) (hm : 0 < t.length) (hi : i < k * t.length) : (List.replicate k t).flatten[i]? = t[i % t.length]? := by
  induction k generalizing i with
  | zero => omega
  | succ k ih =>
    rw [List.replicate_succ, List.flatten_cons]
    rcases Nat.lt_or_ge i t.length with h | h
    · rw [List.getElem?_append_left h, Nat.mod_eq_of_lt h]
    · rw [List.getElem?_append_right h, ih (i - t.length) (by rw [Nat.add_mul] at hi; omega), ← Nat.mod_eq_sub_mod h]
theorem fits_tell {r : List (Option Int)} {m : Nat} (hm : 0 < m) (hr : r ≠ []) (h : fitsR r m = true) (p : Int) : tell (r.take m) p = tell r p := by
  unfold fitsR at h
  rw [Bool.and_eq_true, decide_eq_true_eq, decide_eq_true_eq] at h
  obtain ⟨h1, h2⟩ := h
  have hl : 0 < r.length := List.length_pos_iff.mpr hr
  have hmr : m ≤ r.length := Nat.le_of_dvd hl (Nat.dvd_of_mod_eq_zero h1)
  have tl : (r.take m).length = m := by rw [List.length_take]; omega
  obtain ⟨q, hq⟩ := Nat.dvd_of_mod_eq_zero h1
  have hd : r.length / m = q := by rw [hq, Nat.mul_div_cancel_left _ hm]
  unfold tell
  rw [tl]
  have p0 : 0 ≤ p % (r.length : Int) := Int.emod_nonneg _ (by omega)
  have p1 : p % (r.length : Int) < r.length := Int.emod_lt_of_pos _ (by omega)
  obtain ⟨i, hi⟩ : ∃ i : Nat, p % (r.length : Int) = i := ⟨(p % (r.length : Int)).toNat, by omega⟩
  have hil : i < r.length := by omega
  have e1 : p % (m : Int) = ((i % m : Nat) : Int) := by
    have : p % (m : Int) = (p % (r.length : Int)) % (m : Int) := by
      rw [hq]; push_cast
      exact (Int.emod_emod_of_dvd p ⟨(q : Int), rfl⟩).symm
    rw [this, hi]; exact (Int.natCast_emod i m).symm
  rw [e1, hi, Int.toNat_natCast, Int.toNat_natCast, List.getD_eq_getElem?_getD, List.getD_eq_getElem?_getD]
  congr 1
  have e2 : r[i]? = (List.replicate (r.length / m) (r.take m)).flatten[i]? := congrArg (fun l => l[i]?) h2
  rw [e2, rep_get _ _ _ (by rw [tl]; exact hm) (by rw [tl, hd, Nat.mul_comm, ← hq]; exact hil), tl]
theorem least_tell {r : List (Option Int)} (hr : r ≠ []) (p : Int) : tell (leastR r) p = tell r p := fits_tell (leastN_in hr).1 hr (leastN_in hr).2.2 p
/-- moved, mirrored -/
def movedV (r : List (Option Int)) (by_ : Int) : List (Option Int) := (List.range r.length).map fun (i : Nat) => tell r ((i : Int) - by_)
def mirrV (r : List (Option Int)) (ab : Int) : List (Option Int) := (List.range r.length).map fun (i : Nat) => tell r (ab - (i : Int))
theorem isE_dE (o : Option Int) : isE (dE o) = true := by cases o <;> simp [isNon, isTy_int_int, isTy_int_bool]
theorem known_dE (o : Option Int) : known (dE o) = true := by cases o <;> rfl
theorem all_isE (ring : List (Option Int)) : (vsD ring).all isE = true := by
  rw [List.all_eq_true]; intro x hx; obtain ⟨o, _, rfl⟩ := List.mem_map.mp hx; exact isE_dE o
theorem all_known (ring : List (Option Int)) : (vsD ring).all known = true := by
  rw [List.all_eq_true]; intro x hx; obtain ⟨o, _, rfl⟩ := List.mem_map.mp hx; exact known_dE o
theorem known_vsT (ring : List (Option Int)) : knownAll (.tup (vsD ring)) = true := all_known ring
theorem known_vsL (ring : List (Option Int)) : knownAll (.lst (vsD ring)) = true := all_known ring
theorem areV_ring {x : D} {ring : List (Option Int)} (hne : ring ≠ []) (hl : ring.length ≤ 4000) (hx : x = .tup (vsD ring) ∨ x = .lst (vsD ring)) : areV x 1 = true := by
  have h1 : (1 : Int) ≤ (vsD ring).length := by
    have : 0 < ring.length := List.length_pos_iff.mpr hne
    rw [List.length_map]; omega
  have h2 : (vsD ring).length ≤ 4000 := by rw [List.length_map]; exact hl
  rcases hx with rfl | rfl
  · show (decide _ && decide _ && _) = true
    rw [decide_eq_true h1, decide_eq_true h2, all_isE]; rfl
  · show (decide _ && decide _ && _) = true
    rw [decide_eq_true h1, decide_eq_true h2, all_isE]; rfl
theorem tell_at {ring : List (Option Int)} {q : Int} (h0 : 0 ≤ q) (h1 : q < ring.length) : L2.atI (vsD ring) q = some (dE (ring.getD q.toNat none)) := by
  rw [atI_getD (d := dE none) h0 (by rw [List.length_map]; exact h1)]
  congr 1
  rw [List.getD_eq_getElem?_getD, List.getElem?_map, List.getD_eq_getElem?_getD]
  cases ring[q.toNat]? <;> rfl
theorem tell_mod {ring : List (Option Int)} (hne : ring ≠ []) (p : Int) : L2.atI (vsD ring) (p % ring.length) = some (dE (tell ring p)) := by
  have hp : (0 : Int) < ring.length := by have : 0 < ring.length := List.length_pos_iff.mpr hne; omega
  exact tell_at (Int.emod_nonneg _ (by omega)) (Int.emod_lt_of_pos _ hp)
theorem len_vsD (ring : List (Option Int)) : (vsD ring).length = ring.length := List.length_map ..
theorem plD_dE (n : Nat) (o : Option Int) : plD n (dE o) = true := by
  cases n <;> cases o <;> rfl
theorem pl_vsT (n : Nat) (ring : List (Option Int)) (h : ring.length ≤ 1000000) : plD (n + 1) (.tup (vsD ring)) = true := by
  show (false || (decide _ && _)) = true
  rw [len_vsD, decide_eq_true h, Bool.false_or, Bool.true_and, List.all_eq_true]
  intro x hx; obtain ⟨o, _, rfl⟩ := List.mem_map.mp hx; exact plD_dE n o
theorem flat_pur {x : D} (h : flatI x = true) : pur x = true := by cases x <;> first | rfl | (simp [flatI] at h)
theorem flat_dep {x : D} (h : flatI x = true) : (pd x).depth ≤ 64 := by cases x <;> first | (simp [flatI] at h; done) | (simp [pd, PyData.depth])
theorem lf_dE (o : Option Int) : Lf (dE o) := by cases o <;> constructor
theorem lf_vsT (ring : List (Option Int)) : Lf (.tup (vsD ring)) := .tup fun w hw => by obtain ⟨o, _, rfl⟩ := List.mem_map.mp hw; exact lf_dE o
theorem eqv_dE (a b : Option Int) : PyData.eqv (pd (dE a)) (pd (dE b)) = decide (a = b) := by
  cases a <;> cases b <;> simp [pd, PyData.eqv] <;> rw [Bool.eq_iff_iff] <;> simp
theorem eqvA_vs : ∀ a b : List (Option Int), PyData.eqvAll (pdL (vsD a)) (pdL (vsD b)) = decide (a = b)
  | [], [] => by simp [pdL, PyData.eqvAll]
  | [], _ :: _ => by simp [pdL, PyData.eqvAll]
  | _ :: _, [] => by simp [pdL, PyData.eqvAll]
  | x :: a, y :: b => by
    show PyData.eqvAll (pd (dE x) :: pdL (vsD a)) (pd (dE y) :: pdL (vsD b)) = _
    simp only [PyData.eqvAll, eqv_dE, eqvA_vs a b]
    rw [Bool.eq_iff_iff]; simp
theorem eqD_vsT (a b : List (Option Int)) : eqD (.tup (vsD a)) (.tup (vsD b)) = decide (a = b) := by
  show PyData.eqv (pd (.tup (vsD a))) (pd (.tup (vsD b))) = _
  simp only [pd, PyData.eqv, eqvA_vs]
theorem pur_dE (o : Option Int) : pur (dE o) = true := by cases o <;> rfl
theorem purL_vs : ∀ a : List (Option Int), purL (vsD a) = true
  | [] => rfl
  | x :: a => by show (pur (dE x) && purL (vsD a)) = true; rw [pur_dE, purL_vs a]; rfl
theorem pur_vsT (a : List (Option Int)) : pur (.tup (vsD a)) = true := purL_vs a
theorem pur_vsL (a : List (Option Int)) : pur (.lst (vsD a)) = true := purL_vs a
theorem depL_vs : ∀ a : List (Option Int), PyData.depthAll (pdL (vsD a)) = 0
  | [] => rfl
  | x :: a => by
    show PyData.depthAll (pd (dE x) :: pdL (vsD a)) = 0
    simp only [PyData.depthAll, depL_vs a]
    cases x <;> simp [pd, PyData.depth]
theorem dep_vsT (a : List (Option Int)) : (pd (.tup (vsD a))).depth ≤ 64 := by simp [pd, PyData.depth, depL_vs]
theorem dep_vsL (a : List (Option Int)) : (pd (.lst (vsD a))).depth ≤ 64 := by simp [pd, PyData.depth, depL_vs]
theorem eq_vsT {K : PySem.W.Frag} (a b : List (Option Int)) : RV2 K (rEqU K) (.tup (vsD a)) (.tup (vsD b)) (.d (.bl (decide (a = b)))) := by
  rw [← eqD_vsT]; exact eq_D (pur_vsT _) (pur_vsT _) (dep_vsT _) (dep_vsT _)
theorem vsD_take (a : List (Option Int)) (n : Nat) : vsD (a.take n) = (vsD a).take n := List.map_take ..
theorem vsD_drop (a : List (Option Int)) (n : Nat) : vsD (a.drop n) = (vsD a).drop n := List.map_drop ..
theorem vsD_rep (a : List (Option Int)) (k : Nat) : vsD (List.replicate k a).flatten = (List.replicate k (vsD a)).flatten := by unfold vsD; rw [List.map_flatten, List.map_replicate]
theorem vsD_app (a b : List (Option Int)) : vsD (a ++ b) = vsD a ++ vsD b := List.map_append ..
/-- a tuple of values so many times over -/
theorem rep_vsT {K : PySem.W.Frag} {a : List (Option Int)} {k : Int} (hne : a ≠ []) (h1 : 1 ≤ k) (h2 : a.length * k.toNat ≤ 1000000) (h3 : k ≤ 1000000) : RV2 K (rMulU K) (.tup (vsD a)) (.int k) (.d (.tup (vsD (List.replicate k.toNat a).flatten))) := by
  rw [vsD_rep]
  by_cases e : k = 1
  · subst e
    have z : (List.replicate (1 : Int).toNat (vsD a)).flatten = vsD a := by show (List.replicate 1 (vsD a)).flatten = _; simp
    rw [z]; exact mul_tup1
  · exact mul_tup (fun z => hne (List.map_eq_nil_iff.mp z)) (by omega) (by rw [len_vsD]; exact h2) h3
theorem to_vsT {K : PySem.W.Frag} {δ : List S} {te tp : TE} {a : List (Option Int)} {m : Int} (h : EV K te δ (.d (.tup (vsD a)))) (h2 : EV K tp δ (.d (.int m))) (h0 : 0 ≤ m) : EV K (tSl (rSlU K) te tNoPart (tPart tp)) δ (.d (.tup (vsD (a.take m.toNat)))) := by
  rw [vsD_take, ← cut_to h0]; exact ev_slT h eo_none (eo_some h2)
theorem from_vsT {K : PySem.W.Frag} {δ : List S} {te tp : TE} {a : List (Option Int)} {m : Int} (h : EV K te δ (.d (.tup (vsD a)))) (h2 : EV K tp δ (.d (.int m))) (h0 : 0 ≤ m) : EV K (tSl (rSlU K) te (tPart tp) tNoPart) δ (.d (.tup (vsD (a.drop m.toNat)))) := by
  rw [vsD_drop, ← cut_from h0]; exact ev_slT h (eo_some h2) eo_none
theorem flat1 {α : Type} (n : Int) (x : α) : (List.replicate n.toNat [x]).flatten = List.replicate n.toNat x := by
  induction n.toNat with
  | zero => rfl
  | succ n ih => rw [List.replicate_succ, List.flatten_cons, ih, List.replicate_succ]; rfl
theorem lend1 {δ : List S} (i : Nat) (h : (δ.eraseIdx i).all (fun s => !owned s) = true) : Lend δ i := by
  intro k s hk hs
  have hm : s ∈ δ.eraseIdx i := by
    rw [List.mem_eraseIdx_iff_getElem?]
    exact ⟨k, hk, hs⟩
  have := List.all_eq_true.mp h s hm
  cases s with
  | un => trivial
  | d x => trivial
  | own ys => simp [owned] at this
  | okd ys => simp [owned] at this
  | oko ys => simp [owned] at this
  | ot _ _ _ => trivial
  | ob a C fs => simp [owned] at this
/-! ### for simp -/
@[simp] theorem ks_dE (o : Option Int) : known (dE o) = true := known_dE o
@[simp] theorem isNon_dE (o : Option Int) : isNon (dE o) = o.isNone := by cases o <;> rfl
theorem atI_tell {ring : List (Option Int)} (hne : ring ≠ []) (p : Int) : L2.atI (vsD ring) (p % ring.length) = some (dE (tell ring p)) := tell_mod hne p
theorem pos_len {α : Type} {l : List α} (h : l ≠ []) : (0 : Int) < l.length := by have : 0 < l.length := List.length_pos_iff.mpr h; omega
theorem eqF2_dE (a b : Option Int) : eqF2 (dE a) (dE b) = some (.d (.bl (decide (a = b)))) := by cases a <;> cases b <;> simp [eqF2_int]
theorem neF2_dE (a b : Option Int) : neF2 (dE a) (dE b) = some (.d (.bl (!decide (a = b)))) := by cases a <;> cases b <;> simp [neF2_int]
theorem eqF2_vsT (a b : List (Option Int)) : eqF2 (.tup (vsD a)) (.tup (vsD b)) = some (.d (.bl (decide (a = b)))) := by
  rw [eqF2_of (by unfold cmpD; rw [pur_vsT, pur_vsT, decide_eq_true (dep_vsT a), decide_eq_true (dep_vsT b)]; rfl) (fun _ z => by cases z), eqD_vsT]
theorem isTy_dE_int (o : Option Int) : isTy (dE o) "int" = o.isSome := by cases o <;> simp [isTy_non_int, isTy_int_int]
theorem isTy_dE_bool (o : Option Int) : isTy (dE o) "bool" = false := by cases o <;> simp [isTy_non_bool, isTy_int_bool]
theorem isPl_dE (o : Option Int) : isPl (dE o) = o.isSome := by rw [isPl, isTy_dE_int, isTy_dE_bool]; cases o <;> rfl
@[simp] theorem length_vsD (r : List (Option Int)) : (vsD r).length = r.length := List.length_map ..
theorem e30 : (10 : Int) ^ 30 = 1000000000000000000000000000000 := by decide
theorem e60 : (10 : Int) ^ 60 = 1000000000000000000000000000000000000000000000000000000000000 := by decide
theorem farS_0 {c m : Int} : farS c m 0 = 1 := rfl
theorem farS_in {c m : Int} (h : 1 < m) : ∀ n : Nat, 0 ≤ farS c m n ∧ farS c m n < m
  | 0 => ⟨by rw [farS_0]; omega, by rw [farS_0]; omega⟩
  | n + 1 => ⟨Int.emod_nonneg _ (by omega), Int.emod_lt_of_pos _ (by omega)⟩
theorem atI0 {α : Type} {a : α} {l : List α} : L2.atI (a :: l) 0 = some a := by
  have := atI_getD (xs := a :: l) (i := 0) (d := a) (by decide) (by simp only [List.length_cons]; omega)
  rw [this]; rfl
theorem atI1 {α : Type} {a b : α} {l : List α} : L2.atI (a :: b :: l) 1 = some b := by
  have := atI_getD (xs := a :: b :: l) (i := 1) (d := a) (by decide) (by simp only [List.length_cons]; omega)
  rw [this]; rfl
theorem atI_two {α : Type} {a b : α} {i : Int} (h : i = 0 ∨ i = 1) : L2.atI [a, b] i = some (if i = 0 then a else b) := by
  rcases h with rfl | rfl
  · exact atI0
  · rw [atI1]; rfl
theorem atI_twoE {a b : Option Int} {i : Int} (h : i = 0 ∨ i = 1) : L2.atI [dE a, dE b] i = some (dE (if i = 0 then a else b)) := by
  rcases h with rfl | rfl
  · exact atI0
  · rw [atI1]; rfl
theorem atI_four {α : Type} (P : α → Prop) {a b c d : α} {i : Int} (h0 : 0 ≤ i) (h1 : i < 4) (ha : P a) (hb : P b) (hc : P c) (hd : P d) : ∃ x, L2.atI [a, b, c, d] i = some x ∧ P x := by
  have := atI_getD (xs := [a, b, c, d]) (i := i) (d := a) h0 (by simp only [List.length_cons, List.length_nil]; omega)
  refine ⟨_, this, ?_⟩
  have : i = 0 ∨ i = 1 ∨ i = 2 ∨ i = 3 := by omega
  rcases this with rfl | rfl | rfl | rfl
  · exact ha
  · exact hb
  · exact hc
  · exact hd
@[simp] theorem isNon_exc {C : Addr} {fs : List (Str × D)} : isNon (.exc C fs) = false := (rfl)
@[simp] theorem isNon_ins {C : Addr} {fs : List (Str × D)} : isNon (.ins C fs) = false := (rfl)
@[simp] theorem isNon_int {i : Int} : isNon (.int i) = false := (rfl)
@[simp] theorem isNon_tup {xs : List D} : isNon (.tup xs) = false := (rfl)
@[simp] theorem isNon_lst {xs : List D} : isNon (.lst xs) = false := (rfl)
@[simp] theorem isNon_str {z : Str} : isNon (.str z) = false := (rfl)
@[simp] theorem isNon_non : isNon .non = true := (rfl)
@[simp] theorem isNon_bl {b : Bool} : isNon (.bl b) = false := (rfl)
@[simp] theorem isNon_dK {k : List (Key × D)} : isNon (.dK k) = false := (rfl)
/-! ### how many places -/
def cntIn (ring : List (Option Int)) (v : Option Int) (a : Int) (n : Nat) : Nat := (List.range n).countP fun k => decide (tell ring (a + ((k : Nat) : Int)) = v)
theorem cntIn_add (ring : List (Option Int)) (v : Option Int) (a : Int) (m n : Nat) : cntIn ring v a (m + n) = cntIn ring v a m + cntIn ring v (a + m) n := by
  unfold cntIn
  rw [List.range_add, List.countP_append, List.countP_map]
  congr 1
  apply List.countP_congr
  intro k _
  simp only [Function.comp, decide_eq_true_eq]
  rw [Int.natCast_add, Int.add_assoc]
theorem tell_addL {r : List (Option Int)} (x : Int) (n : Nat) : tell r (x + (n : Int) * r.length) = tell r x := by
  unfold tell; rw [Int.add_mul_emod_self_right]
theorem cntIn_per (ring : List (Option Int)) (v : Option Int) (a : Int) (n k : Nat) : cntIn ring v (a + (k : Int) * ring.length) n = cntIn ring v a n := by
  unfold cntIn
  apply List.countP_congr
  intro j _
  rw [show a + (k : Int) * ring.length + (j : Int) = a + (j : Int) + (k : Int) * ring.length by omega, tell_addL]
theorem tell_nat {ring : List (Option Int)} {k : Nat} (h : k < ring.length) : tell ring (k : Int) = ring[k] := by
  unfold tell
  have e : ((k : Int) % (ring.length : Int)).toNat = k := by rw [Int.emod_eq_of_lt (by omega) (by omega)]; rfl
  rw [e, List.getD_eq_getElem?_getD, List.getElem?_eq_getElem h]; rfl
theorem cntIn_all (ring : List (Option Int)) (v : Option Int) : cntIn ring v 0 ring.length = ring.count v := by
  unfold cntIn
  have e : ring = (List.range ring.length).map fun k => tell ring ((0 : Int) + ((k : Nat) : Int)) := by
    apply List.ext_getElem
    · simp
    · intro i h1 h2
      rw [List.getElem_map, List.getElem_range, Int.zero_add, tell_nat h1]
  conv => rhs; rw [e]
  rw [List.count, List.countP_map]
  apply List.countP_congr
  intro k _
  simp
/-- one round, begun anywhere, has them all -/
theorem cntIn_round (ring : List (Option Int)) (v : Option Int) (h : ring ≠ []) (a : Int) : cntIn ring v a ring.length = ring.count v := by
  have hp := pos_len h
  have key : ∀ n : Nat, cntIn ring v (n : Int) ring.length = ring.count v := by
    intro n
    induction n with
    | zero => exact cntIn_all ring v
    | succ n ih =>
      have h1 := cntIn_add ring v (n : Int) 1 ring.length
      have h2 := cntIn_add ring v (n : Int) ring.length 1
      have h3 := cntIn_per ring v (n : Int) 1 1
      rw [Int.natCast_one, Int.one_mul] at h3
      rw [Nat.add_comm ring.length 1, h1, h3, ih] at h2
      push_cast at h2 ⊢
      omega
  have e : a = ((a % ring.length).toNat : Int) + (a / ring.length) * ring.length := by
    rw [Int.toNat_of_nonneg (Int.emod_nonneg _ (by omega)), Int.mul_comm]; exact (Int.emod_add_mul_ediv a _).symm
  rcases Int.le_total 0 (a / ring.length) with q | q
  · obtain ⟨m, hm⟩ := Int.eq_ofNat_of_zero_le q
    rw [e, hm, cntIn_per, key]
  · obtain ⟨m, hm⟩ := Int.eq_ofNat_of_zero_le (a := -(a / ring.length)) (by omega)
    have := cntIn_per ring v a ring.length m
    rw [← this, ← hm]
    have e2 : a + -(a / ring.length) * ring.length = ((a % ring.length).toNat : Int) := by
      conv => lhs; arg 1; rw [e]
      rw [Int.neg_mul, Int.add_assoc, Int.add_right_neg, Int.add_zero]
    rw [e2, key]
theorem cntIn_div (ring : List (Option Int)) (v : Option Int) (h : ring ≠ []) (a : Int) (n : Nat) : cntIn ring v a n = n / ring.length * ring.count v + cntIn ring v a (n % ring.length) := by
  have main : ∀ q r : Nat, cntIn ring v a (q * ring.length + r) = q * ring.count v + cntIn ring v a r := by
    intro q r
    induction q with
    | zero => simp
    | succ q ih =>
      rw [show (q + 1) * ring.length + r = ring.length + (q * ring.length + r) by rw [Nat.succ_mul]; omega, cntIn_add, cntIn_round ring v h]
      have := cntIn_per ring v a (q * ring.length + r) 1
      rw [Int.natCast_one, Int.one_mul] at this
      rw [this, ih, Nat.succ_mul]; omega
  have := main (n / ring.length) (n % ring.length)
  rw [show n / ring.length * ring.length + n % ring.length = n by rw [Nat.mul_comm]; exact Nat.div_add_mod _ _] at this
  exact this
/-- of a span -/
def cntE (ring : List (Option Int)) (s : Option Int × Option Int) (v : Option Int) : Option Int := match s with
  | (some a, some b) => some (cntIn ring v a (b - a + 1).toNat)
  | _ => if v ∈ ring then none else some 0
theorem cntIn_none (ring : List (Option Int)) (v : Option Int) (h : ring ≠ []) (hv : v ∉ ring) (a : Int) (n : Nat) : cntIn ring v a n = 0 := by
  unfold cntIn
  rw [List.countP_eq_zero]
  intro k _
  have hp := pos_len h
  simp only [decide_eq_true_eq]
  intro e
  apply hv
  rw [← e]
  unfold tell
  have h1 : ((a + (k : Int)) % (ring.length : Int)).toNat < ring.length := by
    have := Int.emod_lt_of_pos (a + (k : Int)) hp
    have := Int.emod_nonneg (a + (k : Int)) (b := (ring.length : Int)) (by omega)
    omega
  rw [List.getD_eq_getElem?_getD, List.getElem?_eq_getElem h1]
  exact List.getElem_mem h1
theorem eqF_dE (a b : Option Int) : eqF (dE a) (dE b) = decide (a = b) := by
  cases a with
  | none => cases b with
    | none => rfl
    | some j => rfl
  | some i => cases b with
    | none => rfl
    | some j =>
      show (i == j) = _
      rw [Bool.eq_iff_iff]; simp
theorem cnt_vs (ring : List (Option Int)) (v : Option Int) : ((vsD ring).countP fun z => eqF z (dE v)) = ring.count v := by
  rw [List.countP_map, List.count]
  apply List.countP_congr
  intro o _
  simp only [Function.comp, eqF_dE, decide_eq_true_eq, beq_iff_eq]
theorem flat_vs (ring : List (Option Int)) : (vsD ring).all flatD = true := by
  rw [List.all_map, List.all_eq_true]; intro o _; cases o <;> rfl
@[simp] theorem flatD_dE (o : Option Int) : flatD (dE o) = true := by cases o <;> rfl
theorem cntF_vs (ring : List (Option Int)) (v : Option Int) : cntF (.lst (vsD ring)) [dE v] = some (.d (.int (ring.count v : Nat))) := by
  show (if _ then _ else _) = _
  rw [if_pos ⟨flatD_dE v, flat_vs ring⟩, cnt_vs]
theorem cntTF_vs (ring : List (Option Int)) (v : Option Int) : cntTF (.tup (vsD ring)) [dE v] = some (.d (.int (ring.count v : Nat))) := by
  show (if _ then _ else _) = _
  rw [if_pos ⟨flatD_dE v, flat_vs ring⟩, cnt_vs]
theorem cntF_t (xs ys : List D) : cntF (.tup xs) ys = none := rfl
theorem cntTF_l (xs ys : List D) : cntTF (.lst xs) ys = none := rfl
theorem in_vs (ring : List (Option Int)) (v : Option Int) : inS (dE v) (.tup (vsD ring)) = some (decide (v ∈ ring)) := by
  have e : ((vsD ring).any fun y => eqF y (dE v)) = decide (v ∈ ring) := by
    rw [Bool.eq_iff_iff, List.any_map, List.any_eq_true, decide_eq_true_eq]
    constructor
    · rintro ⟨o, ho, h⟩
      simp only [Function.comp, eqF_dE, decide_eq_true_eq] at h
      rwa [← h]
    · intro h
      exact ⟨v, h, by simp only [Function.comp, eqF_dE, decide_eq_true_eq]⟩
  have : inS (dE v) (.tup (vsD ring)) = inF (dE v) (.tup (vsD ring)) := by cases v <;> rfl
  rw [this]
  show (if _ then _ else _) = _
  rw [if_pos ⟨flatD_dE v, flat_vs ring⟩, e]
@[simp] theorem sdk1 {k : List (Key × D)} : isTy (.dK k) "int" = false := isTy_dK_int
@[simp] theorem sdk2 {k : List (Key × D)} : isTy (.dK k) "bool" = false := isTy_dK_bool
@[simp] theorem sdk3 {k : List (Key × D)} : isTy (.dK k) "tuple" = false := isTy_dK_tuple
@[simp] theorem sdk4 {k : List (Key × D)} : isTy (.dK k) "list" = false := isTy_dK_list
@[simp] theorem sdk5 {k : List (Key × D)} : isTy (.dK k) "str" = false := isTy_dK_str
theorem leastN_min {r : List (Option Int)} {m : Nat} (hm : 1 ≤ m) (hr : m ≤ r.length) (h : fitsR r m = true) : leastN r ≤ m := by
  unfold leastN
  cases e : (List.range r.length).find? fun i => fitsR r (i + 1) with
  | none =>
    have := List.find?_eq_none.mp e (m - 1) (List.mem_range.mpr (by omega))
    rw [Nat.sub_add_cancel hm, h] at this
    exact absurd rfl this
  | some i =>
    show i + 1 ≤ m
    rcases Nat.lt_or_ge m (i + 1) with z | z
    · obtain ⟨_, as, bs, he, hno⟩ := List.find?_eq_some_iff_append.mp e
      have hl : as.length = i := by
        have h1 : (List.range r.length)[as.length]? = some i := by rw [he, List.getElem?_append_right (Nat.le_refl _), Nat.sub_self]; rfl
        have h2 := (List.getElem?_eq_some_iff.mp h1).2
        rw [List.getElem_range] at h2; exact h2
      have h3 : (List.range r.length)[m - 1]? = some (m - 1) := List.getElem?_range (by omega)
      rw [he, List.getElem?_append_left (by omega)] at h3
      have := hno _ (List.mem_of_getElem? h3)
      rw [Nat.sub_add_cancel hm, h] at this
      simp at this
    · exact z
/-! draws of which only bounds matter -/
theorem lcF_exE {st : D → M (Option D)} {lo : Int} {n : Nat} (h : ∀ i, i < n → ∃ v : Option Int, st (.int (lo + (i : Int))) = .ok (some (dE v))) : ∃ vs : List (Option Int), vs.length = n ∧ lcF st (rg lo n) = .ok (vsD vs) := by
  refine ⟨(List.range n).map fun i => if q : i < n then (h i q).choose else none, by simp, ?_⟩
  unfold vsD
  rw [List.map_map]
  exact lcF_rg fun i hi => by
    have := (h i hi).choose_spec
    simp only [Function.comp, hi, ↓reduceDIte]
    exact this
theorem atI_ex {α : Type} (P : α → Prop) {xs : List α} {i : Int} (h0 : 0 ≤ i) (h1 : i < xs.length) (h : ∀ x ∈ xs, P x) : ∃ x, L2.atI xs i = some x ∧ P x := by
  have hi : i.toNat < xs.length := by omega
  refine ⟨xs[i.toNat], ?_, h _ (List.getElem_mem hi)⟩
  rw [atI_getD (d := xs[i.toNat]) h0 h1, List.getD_eq_getElem?_getD, List.getElem?_eq_getElem hi]; rfl
theorem atI_exE {xs : List (Option Int)} {ys : List D} {i : Int} (e : ys = vsD xs) (h0 : 0 ≤ i) (h1 : i < xs.length) : ∃ v : Option Int, L2.atI ys i = some (dE v) := by
  subst e
  obtain ⟨x, h, v, rfl⟩ := atI_ex (fun x => ∃ v, x = dE v) (xs := vsD xs) h0 (by rw [len_vsD]; exact h1) (fun x hx => by obtain ⟨v, _, rfl⟩ := List.mem_map.mp hx; exact ⟨v, rfl⟩)
  exact ⟨v, h⟩
theorem atI_exI (P : Int → Prop) {xs : List Int} {ys : List D} {i : Int} (e : ys = xs.map D.int) (h0 : 0 ≤ i) (h1 : i < xs.length) (h : ∀ x ∈ xs, P x) : ∃ v : Int, L2.atI ys i = some (.int v) ∧ P v := by
  subst e
  obtain ⟨x, h, v, rfl, hp⟩ := atI_ex (fun x => ∃ v, x = D.int v ∧ P v) (xs := xs.map D.int) h0 (by rw [List.length_map]; exact h1) (fun x hx => by obtain ⟨v, hv, rfl⟩ := List.mem_map.mp hx; exact ⟨v, rfl, h v hv⟩)
  exact ⟨v, h, hp⟩
theorem atI2 {α : Type} {a b c : α} {l : List α} : L2.atI (a :: b :: c :: l) 2 = some c := by
  have := atI_getD (xs := a :: b :: c :: l) (i := 2) (d := a) (by decide) (by simp only [List.length_cons]; omega)
  rw [this]; rfl
theorem atI3 {α : Type} {a b c d : α} {l : List α} : L2.atI (a :: b :: c :: d :: l) 3 = some d := by
  have := atI_getD (xs := a :: b :: c :: d :: l) (i := 3) (d := a) (by decide) (by simp only [List.length_cons]; omega)
  rw [this]; rfl
theorem least_fs {r : List (Option Int)} (hne : r ≠ []) {n : Nat} (hn : r.length - 1 ≤ n) (hn2 : n ≤ r.length) : ((List.range n).findSome? fun i => if fitsR r (i + 1) = true then some (S.d (.tup (vsD (r.take (i + 1))))) else none) = some (.d (.tup (vsD (leastR r)))) ∨ (((List.range n).findSome? fun i => if fitsR r (i + 1) = true then some (S.d (.tup (vsD (r.take (i + 1))))) else none) = none ∧ leastR r = r) := by
  cases hf : (List.range n).find? (fun i => fitsR r (i + 1)) with
  | none =>
    right
    have hn : ∀ j, j < n → fitsR r (j + 1) = false := fun j hj => by
      have := List.find?_eq_none.mp hf j (List.mem_range.mpr hj); simpa using this
    refine ⟨?_, leastR_all hne fun j hj => hn j (by omega)⟩
    rw [List.findSome?_eq_none_iff.mpr]
    intro j hj
    simp [hn j (List.mem_range.mp hj)]
  | some i =>
    left
    have h1 := List.find?_some hf
    have h2 := List.mem_range.mp (List.mem_of_find?_eq_some hf)
    have hle := leastN_min (m := i + 1) (by omega) (by omega) h1
    have h3 := leastN_in hne
    have h4 := find_first (p := fun i => fitsR r (i + 1)) (n := n) (i := leastN r - 1) (by omega) (by have := h3.2.2; rwa [← Nat.sub_add_cancel h3.1] at this) (fun t ht => by
      by_cases zz : fitsR r (t + 1) = true
      · have := leastN_min (m := t + 1) (by omega) (by omega) zz; omega
      · simpa using zz)
    rw [hf] at h4
    have e : i + 1 = leastN r := by cases h4; omega
    have e2 : leastR r = r.take (i + 1) := by unfold leastR; rw [e]
    have : ∀ l : List Nat, l.find? (fun i => fitsR r (i + 1)) = some i → l.findSome? (fun i => if fitsR r (i + 1) = true then some (S.d (.tup (vsD (r.take (i + 1))))) else none) = some (S.d (.tup (vsD (r.take (i + 1))))) := by
      intro l
      induction l with
      | nil => intro h; cases h
      | cons a t ih =>
        intro h
        rw [List.find?_cons] at h
        rw [List.findSome?_cons]
        cases q : fitsR r (a + 1) with
        | true => rw [q] at h; cases h; simp
        | false => rw [q] at h; simp only [Bool.false_eq_true, ↓reduceIte]; exact ih h
    rw [this _ hf, e2]
theorem eqD_vsL (a b : List (Option Int)) : eqD (.lst (vsD a)) (.lst (vsD b)) = decide (a = b) := by
  show PyData.eqv (pd (.lst (vsD a))) (pd (.lst (vsD b))) = _
  simp only [pd, PyData.eqv, eqvA_vs]
theorem eqF2_vsL (a b : List (Option Int)) : eqF2 (.lst (vsD a)) (.lst (vsD b)) = some (.d (.bl (decide (a = b)))) := by
  rw [eqF2_of (by unfold cmpD; rw [pur_vsL, pur_vsL, decide_eq_true (dep_vsL a), decide_eq_true (dep_vsL b)]; rfl) (fun _ z => by cases z), eqD_vsL]
theorem min1F_ints {n : Int} {r : List Int} : min1F [.lst ((n :: r).map .int)] = some (.d (.int (r.foldl min n))) := by
  show (match intsD ((n :: r).map D.int) with | some (n :: r) => some (S.d (.int (r.foldl min n))) | _ => none) = _
  rw [ints_id]
theorem max1F_ints {n : Int} {r : List Int} : max1F [.lst ((n :: r).map .int)] = some (.d (.int (r.foldl max n))) := by
  show (match intsD ((n :: r).map D.int) with | some (n :: r) => some (S.d (.int (r.foldl max n))) | _ => none) = _
  rw [ints_id]
theorem atI_exM {xs : List (Option Int)} {ys : List D} {i : Int} (e : ys = vsD xs) (h0 : 0 ≤ i) (h1 : i < xs.length) : ∃ v ∈ xs, L2.atI ys i = some (dE v) := by
  subst e
  obtain ⟨x, h, v, hv, rfl⟩ := atI_ex (fun x => ∃ v ∈ xs, x = dE v) (xs := vsD xs) h0 (by rw [len_vsD]; exact h1) (fun x hx => by obtain ⟨v, hv, rfl⟩ := List.mem_map.mp hx; exact ⟨v, hv, rfl⟩)
  exact ⟨v, hv, h⟩
theorem log2_le {n a : Nat} (h : n < 2 ^ a) : n.log2 ≤ a := by
  by_cases z : n = 0
  · subst z; simp
  · exact Nat.le_of_lt ((Nat.log2_lt z).mpr h)
theorem mul_bits {i j : Int} (a b : Nat) (h1 : i.natAbs < 2 ^ a) (h2 : j.natAbs < 2 ^ b) (h : a + b < 1000000) : mulF (.int i) (.int j) = some (.d (.int (i * j))) := mulF_int (.inr (by
  have x := log2_le h1
  have y := log2_le h2
  unfold CMulW; omega))
/-- values of no more than 200 bits -/
def SmV (v : Option Int) : Prop := ∀ i, v = some i → i.natAbs < 2 ^ 200
theorem lcF_exP (P : Option Int → Prop) {st : D → M (Option D)} {lo : Int} {n : Nat} (h : ∀ i, i < n → ∃ v : Option Int, P v ∧ st (.int (lo + (i : Int))) = .ok (some (dE v))) : ∃ vs : List (Option Int), vs.length = n ∧ (∀ v ∈ vs, P v) ∧ lcF st (rg lo n) = .ok (vsD vs) := by
  refine ⟨(List.range n).map fun i => if q : i < n then (h i q).choose else none, by simp, fun v hv => ?_, ?_⟩
  · obtain ⟨i, hi, rfl⟩ := List.mem_map.mp hv
    have hi := List.mem_range.mp hi
    simp only [hi, ↓reduceDIte]
    exact (h i hi).choose_spec.1
  · unfold vsD
    rw [List.map_map]
    exact lcF_rg fun i hi => by
      have := (h i hi).choose_spec.2
      simp only [Function.comp, hi, ↓reduceDIte]
      exact this
theorem neF2_vsT (a b : List (Option Int)) : neF2 (.tup (vsD a)) (.tup (vsD b)) = some (.d (.bl (!decide (a = b)))) := by
  rw [neF2_of (by unfold cmpD; rw [pur_vsT, pur_vsT, decide_eq_true (dep_vsT a), decide_eq_true (dep_vsT b)]; rfl) (fun _ z => by cases z), eqD_vsT]
theorem in_vsL (ring : List (Option Int)) (v : Option Int) : inS (dE v) (.lst (vsD ring)) = some (decide (v ∈ ring)) := by
  have h := in_vs ring v
  have : inS (dE v) (.lst (vsD ring)) = inS (dE v) (.tup (vsD ring)) := by cases v <;> rfl
  rw [this, h]
section
variable {g : List S → D → Option (List S)} {body : List S → Fl} {vs : List Nat} {δ δ1 δ2 : List S} {y : D} {ys : List D} {s : S}
theorem forF_nil : forF g body vs [] δ = .nx δ := rfl
theorem forF_nx (h1 : g δ y = some δ1) (h2 : body δ1 = .nx δ2) : forF g body vs (y :: ys) δ = forF g body vs ys (wpF vs δ2) := by rw [forF, h1]; simp only [h2]
theorem forF_rt (h1 : g δ y = some δ1) (h2 : body δ1 = .rt s) : forF g body vs (y :: ys) δ = .rt s := by rw [forF, h1]; simp only [h2]
/-- a for by what holds of the slots ahead of each item; R of what it ends in -/
theorem forF_pred {R : Fl → Prop} (P : Nat → List S → Prop) (h : ∀ i y δ, ys[i]? = some y → P i δ → ∃ δ1, g δ y = some δ1 ∧ ((∃ δ2, (body δ1 = .nx δ2 ∨ body δ1 = .ct δ2) ∧ P (i + 1) (wpF vs δ2)) ∨ (∃ s, body δ1 = .rt s ∧ R (.rt s)) ∨ (∃ δ2, body δ1 = .bk δ2 ∧ R (.nx δ2)))) (he : ∀ δ, P ys.length δ → R (.nx δ)) (h0 : P 0 δ) : R (forF g body vs ys δ) := by
  have main : ∀ (n : Nat) (zs : List D) (δ : List S), zs = ys.drop n → n ≤ ys.length → P n δ → R (forF g body vs zs δ) := by
    intro n zs
    induction zs generalizing n with
    | nil =>
      intro δ e hn p
      have : n = ys.length := by
        have := congrArg List.length e
        rw [List.length_drop, List.length_nil] at this; omega
      subst this; exact he δ p
    | cons z r ih =>
      intro δ e hn p
      have hlt : n < ys.length := by
        have := congrArg List.length e
        rw [List.length_drop, List.length_cons] at this; omega
      rw [List.drop_eq_getElem_cons hlt] at e
      obtain ⟨rfl, er⟩ := List.cons.inj e
      obtain ⟨δ1, h1, h2⟩ := h n _ δ (List.getElem?_eq_getElem hlt) p
      unfold forF
      rw [h1]
      rcases h2 with ⟨δ2, h2, h3⟩ | ⟨s, h2, h3⟩ | ⟨δ2, h2, h3⟩
      · rcases h2 with h2 | h2 <;> (simp only [h2]; exact ih (n + 1) _ er hlt h3)
      · simp only [h2]; exact h3
      · simp only [h2]; exact h3
  exact main 0 ys δ rfl (Nat.zero_le _) h0
end
theorem neF2_vsL (a b : List (Option Int)) : neF2 (.lst (vsD a)) (.lst (vsD b)) = some (.d (.bl (!decide (a = b)))) := by
  rw [neF2_of (by unfold cmpD; rw [pur_vsL, pur_vsL, decide_eq_true (dep_vsL a), decide_eq_true (dep_vsL b)]; rfl) (fun _ z => by cases z), eqD_vsL]
theorem sort2 (a b : Int) : sortI [a, b] = if a ≤ b then [a, b] else [b, a] := by
  unfold sortI
  by_cases h : a ≤ b
  · rw [if_pos h]; simp [List.mergeSort, List.merge, h]
  · rw [if_neg h]; simp [List.mergeSort, List.merge, h]
theorem areV_known {x : D} (ys : List D) (hx : x = .tup ys ∨ x = .lst ys) (f : Int) : areV x f = (decide (f ≤ ys.length) && decide (ys.length ≤ 4000) && ys.all isE) := by
  rcases hx with rfl | rfl <;> rfl
/-! ### texts by their signs -/
section
open _root_.SX _root_.PySem.NumText
abbrev tx (l : List Nat) : Str := ⟨l.toArray⟩
theorem lenS (l : List Nat) : (tx l).length = l.length := S_len l
theorem eqS {a b : List Nat} : (tx a = tx b) ↔ a = b := ⟨S_inj, fun h => by rw [h]⟩
theorem sIx_nn {n d : Nat} {i : Int} (h : 0 ≤ i) : HT.sIx n d (some i) = min i.toNat n := by
  unfold HT.sIx
  simp only
  split <;> omega
theorem cutS_to {l : List Nat} {i : Int} (h : 0 ≤ i) : cutS (tx l) none (some i) = tx (l.take i.toNat) := by
  unfold cutS
  rw [sIx_nn h, S_len]
  show tx ((l.drop 0).take (min i.toNat l.length - 0)) = _
  have e : (l.drop 0).take (min i.toNat l.length - 0) = l.take i.toNat := by
    rw [List.drop_zero, Nat.sub_zero]
    rcases Nat.le_total i.toNat l.length with q | q
    · rw [Nat.min_eq_left q]
    · rw [Nat.min_eq_right q, List.take_of_length_le q, List.take_of_length_le (Nat.le_refl _)]
  rw [e]
theorem cutS_from {l : List Nat} {i : Int} (h : 0 ≤ i) : cutS (tx l) (some i) none = tx (l.drop i.toNat) := by
  unfold cutS
  rw [sIx_nn h, S_len]
  show tx ((l.drop (min i.toNat l.length)).take (l.length - min i.toNat l.length)) = _
  have e : (l.drop (min i.toNat l.length)).take (l.length - min i.toNat l.length) = l.drop i.toNat := by
    rcases Nat.le_total i.toNat l.length with q | q
    · rw [Nat.min_eq_left q, List.take_of_length_le (by rw [List.length_drop]; omega)]
    · rw [Nat.min_eq_right q, List.drop_of_length_le (Nat.le_refl _), List.drop_of_length_le q, List.take_nil]
  rw [e]
theorem cutS_mid {l : List Nat} {i j : Int} (h : 0 ≤ i) (h2 : i ≤ j) : cutS (tx l) (some i) (some j) = tx ((l.drop i.toNat).take (j - i).toNat) := by
  unfold cutS
  rw [sIx_nn h, sIx_nn (by omega), S_len]
  show tx ((l.drop (min i.toNat l.length)).take (min j.toNat l.length - min i.toNat l.length)) = _
  have e : (l.drop (min i.toNat l.length)).take (min j.toNat l.length - min i.toNat l.length) = (l.drop i.toNat).take (j - i).toNat := by
    rcases Nat.le_total i.toNat l.length with q | q
    · rw [Nat.min_eq_left q]
      rcases Nat.le_total j.toNat l.length with q2 | q2
      · rw [Nat.min_eq_left q2]; congr 1; omega
      · rw [Nat.min_eq_right q2, List.take_of_length_le (by rw [List.length_drop]; omega), List.take_of_length_le (by rw [List.length_drop]; omega)]
    · rw [Nat.min_eq_right q, List.drop_of_length_le (Nat.le_refl _), List.drop_of_length_le q, List.take_nil, List.take_nil]
  rw [e]
theorem swS (l b : List Nat) : Txt.startswith (tx l) (tx b) = TL.pre b l := by
  unfold Txt.startswith Builtin.Str.subAt TL.pre
  rw [S_len, S_len]
  have e : (((tx l).cps.extract 0 (0 + b.length)) == (tx b).cps) = (l.take b.length == b) := by
    rw [Bool.eq_iff_iff, beq_iff_eq, beq_iff_eq]
    constructor
    · intro h
      have := congrArg Array.toList h
      simpa using this
    · intro h
      apply Array.ext'
      simpa using h
  rw [e]
  by_cases h : b.length ≤ l.length
  · simp [h]
  · have : (l.take b.length == b) = false := by
      rw [beq_eq_false_iff_ne]
      intro k
      have := congrArg List.length k
      rw [List.length_take] at this; omega
    rw [this, Bool.and_false]
theorem swS1 (l : List Nat) (c : Nat) : Txt.startswith (tx l) (tx [c]) = decide (l.head? = some c) := by
  rw [swS]
  cases l with
  | nil => rfl
  | cons a r =>
    unfold TL.pre
    simp
    by_cases h : a = c <;> simp [h]
/-- a sign in a text of signs -/
theorem inS1 (a : List Nat) (c : Nat) : (!(Builtin.Str.occurrences (tx a) (tx [c]) 0 (tx a).length 1).isEmpty) = decide (c ∈ a) := in_one a c
theorem partS {l b p q : List Nat} (hb : b ≠ []) (h : TL.par b [] l = some (p, q)) : Txt.partition (tx l) (tx b) = (tx p, tx b, tx q) := partition_some hb h
theorem partN {l b : List Nat} (hb : b ≠ []) (h : TL.par b [] l = none) : Txt.partition (tx l) (tx b) = (tx l, tx [], tx []) := partition_none hb h
/-! ### numbers -/
def numS (i : Int) : List Nat := if i < 0 then 45 :: TL.numL i.natAbs else TL.numL i.natAbs
theorem str_num (i : Int) : Str.ofString (toString i) = tx (numS i) := by
  unfold numS
  cases i with
  | ofNat n =>
    rw [if_neg (by simp)]
    exact num_S n
  | negSucc n =>
    rw [if_pos (by omega)]
    have e : toString (Int.negSucc n) = "-" ++ toString (((n + 1 : Nat) : Int)) := rfl
    rw [e]
    have h2 := TL.tl_num (n + 1)
    have h4 : Str.ofString (toString (((n + 1 : Nat) : Int))) = tx (TL.numL (n + 1)) := num_S (n + 1)
    rw [Str.ofString_eq_toList] at h4 ⊢
    have h5 := S_inj h4
    show tx _ = tx _
    rw [String.toList_append, List.map_append, h5]
    rfl
theorem str_rep (i : Int) : Str.ofString i.repr = tx (numS i) := str_num i
def isDig (c : Nat) : Bool := decide (48 ≤ c ∧ c ≤ 57)
def figs (l : List Nat) : List Nat := if l.head? = some 45 then l.tail else l
def numOf (l : List Nat) : Option Int :=
  if figs l = [] ∨ (figs l).all isDig = false then none
  else if (figs l).head? = some 48 ∧ l ≠ [48] then none
  else some (if l.head? = some 45 then -(digitsVal (figs l) : Int) else (digitsVal (figs l) : Int))
theorem allDig {l : List Nat} : l.all isDig = true ↔ AllDigits l := by
  unfold AllDigits isDig
  rw [List.all_eq_true]
  exact ⟨fun h c hc => by have := h c hc; simpa using this, fun h c hc => by have := h c hc; simpa using this⟩
theorem numL_head {n : Nat} : ∀ c, (TL.numL n).head? = some c → (c = 48 → n = 0) ∧ 48 ≤ c := by
  induction n using Nat.strongRecOn with
  | _ n ih =>
    intro c hc
    by_cases h : n < 10
    · rw [TL.numL_lt h] at hc
      simp at hc
      omega
    · rw [TL.numL_step (by omega)] at hc
      have := ih (n / 10) (by omega) c (by
        cases e : TL.numL (n / 10) with
        | nil => exact absurd e (TL.numL_ne _)
        | cons a r => rw [e] at hc; simpa using hc)
      exact ⟨fun z => by have := this.1 z; omega, this.2⟩
theorem numL_zero : TL.numL 0 = [48] := TL.numL_lt (by decide)
theorem numL_h45 (n : Nat) : (TL.numL n).head? ≠ some 45 := fun h => by have := (numL_head 45 h).2; omega
theorem figs_numS (i : Int) : figs (numS i) = TL.numL i.natAbs := by
  unfold figs numS
  split
  · simp
  · rw [if_neg (numL_h45 _)]
theorem numOf_numS (i : Int) : numOf (numS i) = some i := by
  unfold numOf
  rw [figs_numS, if_neg]
  · rw [if_neg, TL.numL_val]
    · unfold numS
      by_cases h : i < 0
      · rw [if_pos h]; simp; omega
      · rw [if_neg h, if_neg (numL_h45 _)]; congr 1; omega
    · rintro ⟨h1, h2⟩
      have := (numL_head 48 h1).1 rfl
      have hi : i = 0 := by omega
      subst hi
      exact h2 (by unfold numS; simp [numL_zero])
  · rintro (h | h)
    · exact TL.numL_ne _ h
    · rw [allDig.mpr (TL.numL_digits _)] at h; cases h
theorem numS_signs (i : Int) : ∀ c ∈ numS i, c = 45 ∨ (48 ≤ c ∧ c ≤ 57) := by
  intro c hc
  unfold numS at hc
  split at hc
  · rcases List.mem_cons.mp hc with h | h
    · exact .inl h
    · exact .inr (TL.numL_digits _ c h)
  · exact .inr (TL.numL_digits _ c hc)
theorem numS_ne (i : Int) : numS i ≠ [] := by
  unfold numS
  split
  · simp
  · exact TL.numL_ne _
theorem numS_len {i : Int} {k : Nat} (hk : 0 < k) (h : i.natAbs < 10 ^ k) : (numS i).length ≤ k + 1 := by
  have := TL.numL_len hk h
  unfold numS
  split
  · simp; omega
  · omega
theorem numOf_signs {l : List Nat} {n : Int} (h : numOf l = some n) : l ≠ [] ∧ ∀ c ∈ l, c = 45 ∨ (48 ≤ c ∧ c ≤ 57) := by
  unfold numOf at h
  split at h
  · cases h
  · rename_i q
    have q1 : figs l ≠ [] := fun z => q (.inl z)
    have q2 : AllDigits (figs l) := allDig.mp (by cases e : (figs l).all isDig with | true => rfl | false => exact absurd (.inr e) q)
    unfold figs at q1 q2
    cases l with
    | nil => simp at q1
    | cons a r =>
      refine ⟨by simp, fun c hc => ?_⟩
      by_cases e : a = 45
      · subst e
        simp at q2
        rcases List.mem_cons.mp hc with z | z
        · exact .inl z
        · exact .inr (q2 c z)
      · simp [e] at q2
        exact .inr (q2 c hc)
theorem numOf_nil : numOf [] = none := by decide
/-- int(text) of figures -/
theorem intT {l : List Nat} (h : l.all isDig = true) (h1 : l ≠ []) (h2 : l.length ≤ 4300) : intText? (tx l) = some ((digitsVal l : Nat) : Int) :=
  intText_digits (x := tx l) (allDig.mp h) h1 (by rw [S_len]; exact h2)
theorem digitsVal_snoc (l : List Nat) (c : Nat) : digitsVal (l ++ [c]) = digitsVal l * 10 + (c - 48) := by unfold digitsVal; rw [List.foldl_append]; rfl
theorem numS_inj {i j : Int} (h : numS i = numS j) : i = j := by have := numOf_numS i; rw [h, numOf_numS] at this; cases this; rfl
/-- the first place of a sign in figures -/
theorem idxS {c : Nat} (h : 48 ≤ c ∧ c ≤ 57) : ∃ r, Builtin.Str.occurrences (tx [48, 49, 50, 51, 52, 53, 54, 55, 56, 57]) (tx [c]) 0 (tx [48, 49, 50, 51, 52, 53, 54, 55, 56, 57]).length 1 = (c - 48) :: r := by
  have : c = 48 ∨ c = 49 ∨ c = 50 ∨ c = 51 ∨ c = 52 ∨ c = 53 ∨ c = 54 ∨ c = 55 ∨ c = 56 ∨ c = 57 := by omega
  rcases this with e | e | e | e | e | e | e | e | e | e <;> subst e <;> exact ⟨[], by decide +kernel⟩
theorem strF_int {i : Int} (h : i.natAbs.log2 < 1920) : strF [.int i] = some (.d (.str (toString i))) := if_pos h
theorem c45_S : ("-" : Str) = tx [45] := by rfl
theorem c48_S : ("0" : Str) = tx [48] := by rfl
theorem cE_S : ("" : Str) = tx [] := by rfl
theorem cF_S : ("0123456789" : Str) = tx [48, 49, 50, 51, 52, 53, 54, 55, 56, 57] := by rfl
theorem cDD_S : (".." : Str) = tx [46, 46] := by rfl
theorem mem_figs (c : Nat) : decide (c ∈ [48, 49, 50, 51, 52, 53, 54, 55, 56, 57]) = isDig c := by
  unfold isDig
  rw [decide_eq_decide]
  simp only [List.mem_cons, List.not_mem_nil, or_false]
  omega
theorem inS_fig (c : Nat) : inS (.str (tx [c])) (.str (tx [48, 49, 50, 51, 52, 53, 54, 55, 56, 57])) = some (isDig c) := by
  show some (!(Builtin.Str.occurrences (tx [48, 49, 50, 51, 52, 53, 54, 55, 56, 57]) (tx [c]) 0 (tx [48, 49, 50, 51, 52, 53, 54, 55, 56, 57]).length 1).isEmpty) = _
  rw [inS1, mem_figs]
theorem ixF_ch {l : List Nat} {c : Nat} (h : l.head? = some c) (k : l.length ≤ 16777216) : ixF (.str (tx l)) (.int 0) = some (.d (.str (tx [c]))) := by
  cases l with
  | nil => cases h
  | cons a r =>
    cases h
    show (if (tx (c :: r)).length ≤ sizeLine then _ else _) = _
    have e : L2.atI (c :: r) 0 = some c := atI_getD (xs := c :: r) (i := 0) (d := 0) (by decide) (by simp only [List.length_cons]; omega)
    rw [S_len, if_pos (by rw [sizeLine_eq]; exact k)]
    show (L2.atI (c :: r) 0).map _ = _
    rw [e]; rfl
theorem addF_tx {a b : List Nat} (h : a.length + b.length ≤ 16777216) : addF (.str (tx a)) (.str (tx b)) = some (.d (.str (tx (a ++ b)))) := by
  show (if (tx a).length + (tx b).length ≤ sizeLine then _ else _) = _
  rw [S_len, S_len, if_pos (by rw [sizeLine_eq]; exact h), S_cat]
/-! lists of texts, compared -/
def okTx (a : List (List Nat)) : Prop := ∀ x ∈ a, PyData.strOk (tx x) = true
theorem purL_st : ∀ a : List (List Nat), okTx a → purL (a.map fun x => D.str (tx x)) = true
  | [], _ => rfl
  | x :: a, h => by
    show (pur (.str (tx x)) && purL (a.map fun x => D.str (tx x))) = true
    rw [purL_st a fun y hy => h y (List.mem_cons_of_mem _ hy), Bool.and_true]
    exact h x (List.mem_cons_self ..)
theorem depL_st : ∀ a : List (List Nat), PyData.depthAll (pdL (a.map fun x => D.str (tx x))) = 0
  | [] => rfl
  | x :: a => by
    show PyData.depthAll (pd (.str (tx x)) :: pdL (a.map fun x => D.str (tx x))) = 0
    simp only [PyData.depthAll, depL_st a]
    simp [pd, PyData.depth]
theorem eqvA_st : ∀ a b : List (List Nat), PyData.eqvAll (pdL (a.map fun x => D.str (tx x))) (pdL (b.map fun x => D.str (tx x))) = decide (a = b)
  | [], [] => rfl
  | [], _ :: _ => rfl
  | _ :: _, [] => rfl
  | x :: a, y :: b => by
    show PyData.eqvAll (pd (.str (tx x)) :: pdL (a.map fun x => D.str (tx x))) (pd (.str (tx y)) :: pdL (b.map fun x => D.str (tx x))) = _
    simp only [PyData.eqvAll, eqvA_st a b]
    rw [Bool.eq_iff_iff]
    simp [pd, PyData.eqv]
theorem pur_stL {a : List (List Nat)} (h : okTx a) : pur (.lst (a.map fun x => D.str (tx x))) = true := purL_st a h
theorem dep_stL (a : List (List Nat)) : (pd (.lst (a.map fun x => D.str (tx x)))).depth ≤ 64 := by simp [pd, PyData.depth, depL_st]
theorem eqD_stL (a b : List (List Nat)) : eqD (.lst (a.map fun x => D.str (tx x))) (.lst (b.map fun x => D.str (tx x))) = decide (a = b) := by
  show PyData.eqv (pd (.lst (a.map fun x => D.str (tx x)))) (pd (.lst (b.map fun x => D.str (tx x)))) = _
  simp only [pd, PyData.eqv, eqvA_st]
theorem eqF2_stL {a b : List (List Nat)} (ha : okTx a) (hb : okTx b) : eqF2 (.lst (a.map fun x => D.str (tx x))) (.lst (b.map fun x => D.str (tx x))) = some (.d (.bl (decide (a = b)))) := by
  rw [eqF2_of (by unfold cmpD; rw [pur_stL ha, pur_stL hb, decide_eq_true (dep_stL a), decide_eq_true (dep_stL b)]; rfl) (fun _ z => by cases z), eqD_stL]
theorem neF2_stL {a b : List (List Nat)} (ha : okTx a) (hb : okTx b) : neF2 (.lst (a.map fun x => D.str (tx x))) (.lst (b.map fun x => D.str (tx x))) = some (.d (.bl (!decide (a = b)))) := by
  rw [neF2_of (by unfold cmpD; rw [pur_stL ha, pur_stL hb, decide_eq_true (dep_stL a), decide_eq_true (dep_stL b)]; rfl) (fun _ z => by cases z), eqD_stL]
theorem neF2_st0 {a : List (List Nat)} (ha : okTx a) : neF2 (.lst (a.map fun x => D.str (tx x))) (.lst []) = some (.d (.bl (!decide (a = [])))) := neF2_stL ha (b := []) (fun _ h => nomatch h)
theorem okTx_of {a : List (List Nat)} (h : ∀ x ∈ a, ∀ c ∈ x, c < 1114112) : okTx a := fun x hx => by
  unfold PyData.strOk
  show (x.toArray.all _) = true
  rw [List.all_toArray, List.all_eq_true]
  intro c hc
  exact decide_eq_true (h x hx c hc)
theorem atI_map {α β : Type} {f : α → β} {xs : List α} {i : Int} {x : α} (h : L2.atI xs i = some x) : L2.atI (xs.map f) i = some (f x) := by
  unfold L2.atI at h ⊢
  rw [List.length_map]
  cases e : L2.ixN xs.length i with
  | none => rw [e] at h; cases h
  | some j =>
    rw [e] at h
    have h : xs[j]? = some x := h
    show (xs.map f)[j]? = some (f x)
    rw [List.getElem?_map, h]; rfl
theorem ixF_tx {l : List Nat} {i : Int} {c : Nat} (h : L2.atI l i = some c) (k : l.length ≤ 16777216) : ixF (.str (tx l)) (.int i) = some (.d (.str (tx [c]))) := by
  show (if (tx l).length ≤ sizeLine then (L2.atI l i).map fun c => S.d (.str ⟨#[c]⟩) else none) = _
  rw [S_len, if_pos (by rw [sizeLine_eq]; exact k), h]; rfl
end
/-! ### spans as texts -/
section
open _root_.SX _root_.PySem.NumText
def endS : Option Int → List Nat
  | none => [] | some i => numS i
def spanS (s : Option Int × Option Int) : List Nat := if s.1 ≠ none ∧ s.1 = s.2 then endS s.1 else endS s.1 ++ ([46, 46] ++ endS s.2)
def spanPair (a b : List Nat) : Option (Option Int × Option Int) :=
  if (numOf a = none ∧ a ≠ []) ∨ (numOf b = none ∧ b ≠ []) then none
  else match numOf a, numOf b with
    | some i, some j => if j ≤ i then none else some (some i, some j)
    | x, y => some (x, y)
def spanOf (l : List Nat) : Option (Option Int × Option Int) := match TL.par [46, 46] [] l with
  | none => (numOf l).map fun n => (some n, some n)
  | some (a, b) => spanPair a b
theorem numOf_endS (e : Option Int) : numOf (endS e) = e := by
  cases e with
  | none => exact numOf_nil
  | some i => exact numOf_numS i
theorem endS_no (e : Option Int) : 46 ∉ endS e := by
  cases e with
  | none => simp [endS]
  | some i => intro h; have := numS_signs i 46 h; omega
theorem endS_nil {e : Option Int} (h : e = none) : endS e = [] := by subst h; rfl
theorem spanOf_spanS {s : Option Int × Option Int} (h : ∀ a b, s.1 = some a → s.2 = some b → a ≤ b) : spanOf (spanS s) = some s := by
  obtain ⟨a, b⟩ := s
  unfold spanOf spanS
  by_cases q : a ≠ none ∧ a = b
  · simp only
    rw [if_pos q]
    obtain ⟨q1, rfl⟩ := q
    rw [TL.par_none1 (endS_no a)]
    cases a with
    | none => exact absurd rfl q1
    | some i => show (numOf (numS i)).map _ = _; rw [numOf_numS]; rfl
  · simp only
    rw [if_neg q, TL.par_part1 (endS_no a), List.nil_append]
    show spanPair _ _ = _
    unfold spanPair
    rw [numOf_endS, numOf_endS, if_neg]
    · cases a with
      | none => rfl
      | some i =>
        cases b with
        | none => rfl
        | some j =>
          have h1 := h i j rfl rfl
          have h2 : i ≠ j := fun z => q ⟨by simp, by rw [z]⟩
          simp only
          rw [if_neg (by omega)]
    · rintro (⟨h1, h2⟩ | ⟨h1, h2⟩)
      · exact h2 (endS_nil h1)
      · exact h2 (endS_nil h1)
theorem par_cases {A l : List Nat} (hA : A ≠ []) : (TL.par A [] l = none ∧ ∀ i, TL.pre A (l.drop i) = false) ∨ ∃ i, TL.par A [] l = some (l.take i, l.drop (i + A.length)) ∧ TL.pre A (l.drop i) = true ∧ i + A.length ≤ l.length ∧ ∀ j, j < i → TL.pre A (l.drop j) = false := by
  by_cases h : ∃ i, TL.pre A (l.drop i) = true
  · right
    have hd : ∃ i, TL.pre A (l.drop i) = true ∧ ∀ j, j < i → TL.pre A (l.drop j) = false := by
      obtain ⟨i, hi⟩ := h
      induction i using Nat.strongRecOn with
      | _ i ih =>
        by_cases k : ∃ j, j < i ∧ TL.pre A (l.drop j) = true
        · obtain ⟨j, hj, k⟩ := k; exact ih j hj k
        · exact ⟨i, hi, fun j hj => by cases e : TL.pre A (l.drop j) with | false => rfl | true => exact absurd ⟨j, hj, e⟩ k⟩
    obtain ⟨i, hi, hl⟩ := hd
    have hle : i + A.length ≤ l.length := by
      unfold TL.pre at hi
      have := congrArg List.length (beq_iff_eq.mp hi)
      rw [List.length_take, List.length_drop] at this
      have : 0 < A.length := List.length_pos_iff.mpr hA
      omega
    refine ⟨i, ?_, hi, hle, hl⟩
    have e : l = l.take i ++ (A ++ l.drop (i + A.length)) := by
      have e1 : l.drop i = A ++ l.drop (i + A.length) := by
        unfold TL.pre at hi
        have := beq_iff_eq.mp hi
        conv => lhs; rw [← List.take_append_drop A.length (l.drop i), this]
        rw [List.drop_drop]
      rw [← e1, List.take_append_drop]
    have := TL.par_part (S := A) (p := l.take i) (rest := l.drop (i + A.length)) (acc := []) hA (fun j hj => by
      rw [← e]; exact hl j (by rw [List.length_take] at hj; omega))
    rw [← e, List.nil_append] at this
    exact this
  · left
    have k : ∀ i, TL.pre A (l.drop i) = false := fun i => by cases e : TL.pre A (l.drop i) with | false => rfl | true => exact absurd ⟨i, e⟩ h
    exact ⟨TL.par_none fun i _ => k i, k⟩
end
section
variable {Z : Zs}
theorem F_number_text_v {i : Int} (h : i.natAbs.log2 < 1920) : F_number_text Z [.int i] = .ok (.d (.str (tx (numS i)))) := by
  simp (disch := walk_at "dd") [F_number_text_eq, b_number_text, strF_int h, str_rep]

end
section
variable {Z : Zs}
section
open _root_.SX _root_.PySem.NumText
theorem F_number_by_v {l : List Nat} (h : l.length ≤ 640) : F_number_by Z [.str (tx l)] = .ok (.d (dE (numOf l))) := by
  have hsw := swS1 l 45
  have hcut : cutS (tx l) (some 1) none = tx (l.drop 1) := cutS_from (by decide)
  have hl : (tx l).length ≤ 16777216 := by rw [S_len]; omega
  have hf : (if l.head? = some 45 then tx (l.drop 1) else tx l) = tx (figs l) := by
    unfold figs; split
    · rw [List.drop_one]
    · rfl
  have hfl : (figs l).length ≤ l.length := by unfold figs; split <;> simp
  have hc : lcF (lcS (SG.name 2) (ST.yes : ST (HY Z)) (.op oIn (.var 2) (.str "0123456789")) [.d (.str (tx l)), .d (.str (tx (figs l))), .un]) (chD (tx (figs l))) = .ok ((figs l).map fun c => D.bl (isDig c)) := by
    rw [chD_S]
    exact lcF_all fun c _ => by simp [lcS, cF_S, inS_fig]
  have hlen : (chD (tx (figs l))).length ≤ 16777216 := by rw [chD_S, List.length_map]; omega
  have hall : allF [.lst ((figs l).map fun c => D.bl (isDig c))] = some (.d (.bl ((figs l).all isDig))) := allF_map _ _
  have hE : decide (tx (figs l) = tx []) = decide (figs l = []) := by rw [decide_eq_decide]; exact eqS
  have h0 : decide (tx l = tx [48]) = decide (l = [48]) := by rw [decide_eq_decide]; exact eqS
  have hh : hide [.d (.str (tx l)), .d (.str (tx (figs l))), .un] [2] = [.d (.str (tx l)), .d (.str (tx (figs l))), .un] := rfl
  have hint : figs l ≠ [] → (figs l).all isDig = true → intSF [.str (tx (figs l))] = some (.d (.int (digitsVal (figs l) : Nat))) := fun h1 h2 => intSF_str (by rw [S_len]; omega) (intT h2 h1 (by omega))
  have hix : ∀ c, (figs l).head? = some c → ixF (.str (tx (figs l))) (.int 0) = some (.d (.str (tx [c]))) := fun c e => ixF_ch e (by omega)
  have hone : ∀ c : Nat, decide (tx [c] = tx [48]) = decide (c = 48) := fun c => by rw [decide_eq_decide, eqS]; simp
  have hf2 : (l.head? = some 45 ∧ cutS (tx l) (some 1) none = tx (figs l)) ∨ (¬ l.head? = some 45 ∧ figs l = l) := by
    unfold figs
    by_cases q : l.head? = some 45
    · exact .inl ⟨q, by rw [if_pos q, hcut, List.drop_one]⟩
    · exact .inr ⟨q, by rw [if_neg q]⟩
  unfold numOf
  clear hf
  generalize figs l = f at *
  have hlf : (tx f).length ≤ 16777216 := by rw [S_len]; omega
  have hx : ∀ (c : Nat) (r : List Nat), f = c :: r → ixF (.str (tx f)) (.int 0) = some (.d (.str (tx [c]))) := fun c r e => hix c (by rw [e]; rfl)
  by_cases k1 : f = []
  · have k1' : decide (f = []) = true := by simpa using k1
    have hEt : (tx f = tx []) = True := eq_true (by rw [k1])
    have k1t : (f = []) = True := eq_true k1
    clear k1 k1'
    rcases hf2 with ⟨q, e⟩ | ⟨q, e⟩
    · simp (disch := walk_at "dd") [F_number_by_eq, b_number_by, c45_S, cE_S, hsw, q, e, cutF, hl, hlf, hlen, hEt, k1t]
    · subst e
      simp (disch := walk_at "dd") [F_number_by_eq, b_number_by, c45_S, cE_S, hsw, q, cutF, hl, hlf, hlen, hEt, k1t]
  · obtain ⟨c, r, hcr⟩ : ∃ c r, f = c :: r := by cases f with | nil => exact absurd rfl k1 | cons a r => exact ⟨a, r, rfl⟩
    have hx := hx c r hcr
    have hhd : f.head? = some c := by rw [hcr]; rfl
    have hE2 : ¬ tx f = tx [] := fun z => k1 (eqS.mp z)
    by_cases k2 : f.all isDig = true
    · have hi := hint k1 k2
      rw [k2] at hall
      rw [k2, hhd]
      rcases hf2 with ⟨q, e⟩ | ⟨q, e⟩
      · rcases Classical.propComplete (c = 48) with p1 | p1 <;> rcases Classical.propComplete (l = [48]) with p2 | p2 <;> simp (disch := walk_at "dd") [F_number_by_eq, b_number_by, c45_S, cE_S, c48_S, hsw, q, e, cutF, hl, hlf, hlen, hE2, hh, hc, hall, hx, hone, h0, hi, eq_false k1, p1, p2]
      · subst e
        rcases Classical.propComplete (c = 48) with p1 | p1 <;> rcases Classical.propComplete (f = [48]) with p2 | p2 <;> simp (disch := walk_at "dd") [F_number_by_eq, b_number_by, c45_S, cE_S, c48_S, hsw, q, cutF, hl, hlf, hlen, hE2, hh, hc, hall, hx, hone, h0, hi, eq_false k1, p1, p2]
    · have k2 : f.all isDig = false := by simpa using k2
      rw [k2] at hall
      rw [k2]
      rcases hf2 with ⟨q, e⟩ | ⟨q, e⟩
      · simp (disch := walk_at "dd") [F_number_by_eq, b_number_by, c45_S, cE_S, c48_S, hsw, q, e, cutF, hl, hlf, hlen, hE2, hh, hc, hall, k1]
      · subst e
        simp (disch := walk_at "dd") [F_number_by_eq, b_number_by, c45_S, cE_S, c48_S, hsw, q, cutF, hl, hlf, hlen, hE2, hh, hc, hall, k1]
end

end
section
variable {Z : Zs}
theorem F_end_text_v {e : Option Int} (h : ∀ i, e = some i → i.natAbs.log2 < 1920) : F_end_text Z [dE e] = .ok (.d (.str (tx (endS e)))) := by
  cases e with
  | none => simp (disch := walk_at "dd") [F_end_text_eq, b_end_text, cE_S, endS]
  | some i => simp (disch := walk_at "dd") [F_end_text_eq, b_end_text, endS, F_number_text_v (h i rfl)]

end
section
variable {Z : Zs}
theorem F_span_text_v {s : Option Int × Option Int} (h1 : ∀ i, s.1 = some i → i.natAbs.log2 < 1920) (h2 : ∀ i, s.2 = some i → i.natAbs.log2 < 1920)
    (k1 : (endS s.1).length ≤ 4000) (k2 : (endS s.2).length ≤ 4000) : F_span_text Z [dS s] = .ok (.d (.str (tx (spanS s)))) := by
  obtain ⟨a, b⟩ := s
  have e1 := F_end_text_v (Z := Z) h1
  have e2 := F_end_text_v (Z := Z) h2
  have ha : addF (.str (tx (endS a))) (.str (tx [46, 46])) = some (.d (.str (tx (endS a ++ [46, 46])))) := addF_tx (by simp at *; omega)
  have hb : addF (.str (tx (endS a ++ [46, 46]))) (.str (tx (endS b))) = some (.d (.str (tx (endS a ++ [46, 46] ++ endS b)))) := addF_tx (by simp at *; omega)
  simp only at e1 e2
  unfold spanS
  cases a with
  | none => simp (disch := walk_at "dd") [F_span_text_eq, b_span_text, cDD_S, ha, hb, e1, e2]
  | some i =>
    have e3 := F_number_text_v (Z := Z) (h1 i rfl)
    cases b with
    | none => simp (disch := walk_at "dd") [F_span_text_eq, b_span_text, cDD_S, ha, hb, e1, e2, e3]
    | some j =>
      by_cases q : i = j
      · subst q; simp (disch := walk_at "dd") [F_span_text_eq, b_span_text, cDD_S, ha, hb, e1, e2, e3, endS]
      · simp (disch := walk_at "dd") [F_span_text_eq, b_span_text, cDD_S, ha, hb, e1, e2, e3, q]

end
section
variable {Z : Zs}
theorem F_span_by_v {l : List Nat} (h : l.length ≤ 640) : F_span_by Z [.str (tx l)] = .ok (.d (dO (spanOf l))) := by
  have hl : (tx l).length ≤ 16777216 := by rw [lenS]; omega
  have h2 : ((tx [46, 46]).length == 0) = false := by decide
  have hE : ∀ a : List Nat, (tx a = tx []) = (a = []) := fun a => propext eqS
  unfold spanOf
  have hn0 := F_number_by_v (Z := Z) (l := []) (by simp)
  rw [numOf_nil] at hn0
  rcases par_cases (A := [46, 46]) (l := l) (by simp) with ⟨e, _⟩ | ⟨i, e, _, hi, _⟩
  · have hp := partN (b := [46, 46]) (by simp) e
    have hn := F_number_by_v (Z := Z) h
    rw [e]
    cases q : numOf l with
    | none => rw [q] at hn; simp (disch := walk_at "dd") [F_span_by_eq, b_span_by, cDD_S, cE_S, omF_part h2 (sz hl), hp, hn, hn0]
    | some n => rw [q] at hn; simp (disch := walk_at "dd") [F_span_by_eq, b_span_by, cDD_S, cE_S, omF_part h2 (sz hl), hp, hn, hn0]
  · have hp := partS (b := [46, 46]) (by simp) e
    rw [e]
    simp only [List.length_cons, List.length_nil] at hi hp ⊢
    have hla : (l.take i).length ≤ 640 := by rw [List.length_take]; omega
    have hlb : (l.drop (i + 2)).length ≤ 640 := by rw [List.length_drop]; omega
    generalize l.take i = a at *
    generalize l.drop (i + 2) = b at *
    have ha := F_number_by_v (Z := Z) hla
    have hb := F_number_by_v (Z := Z) hlb
    have h46 : (tx [46, 46] = tx []) = False := eq_false (fun z => by have := eqS.mp z; simp at this)
    unfold spanPair
    cases qa : numOf a with
    | none =>
      rw [qa] at ha
      rcases Classical.propComplete (a = []) with p1 | p1 <;> cases qb : numOf b with
        | none =>
          rw [qb] at hb
          rcases Classical.propComplete (b = []) with p2 | p2 <;> simp (disch := walk_at "dd") [F_span_by_eq, b_span_by, cDD_S, cE_S, omF_part h2 (sz hl), hp, ha, hb, h46, hE, p1, p2]
        | some j => rw [qb] at hb; simp (disch := walk_at "dd") [F_span_by_eq, b_span_by, cDD_S, cE_S, omF_part h2 (sz hl), hp, ha, hb, h46, hE, p1]
    | some i =>
      rw [qa] at ha
      cases qb : numOf b with
      | none =>
        rw [qb] at hb
        rcases Classical.propComplete (b = []) with p2 | p2 <;> simp (disch := walk_at "dd") [F_span_by_eq, b_span_by, cDD_S, cE_S, omF_part h2 (sz hl), hp, ha, hb, h46, hE, p2]
      | some j =>
        rw [qb] at hb
        by_cases p : j ≤ i <;> simp (disch := walk_at "dd") [F_span_by_eq, b_span_by, cDD_S, cE_S, omF_part h2 (sz hl), hp, ha, hb, h46, hE, p]

end
section
variable {Z : Zs}
theorem F_l_cell_v {ns : List Int} {k : Int} (hl : ns.length ≤ 63) : F_l_cell Z [scrD ns, .int k] = .ok (.d (.int (cell ns k))) := by
  cases ns with
  | nil => simp (disch := walk_at "dd") [F_l_cell_eq, b_l_cell, cell]
  | cons n r =>
    have hp : (0 : Int) < ((n :: r).length : Int) := by simp only [List.length_cons]; omega
    have hq : (((n :: r).map D.int).length : Int) = ((n :: r).length : Int) := by rw [List.length_map]
    have hat : L2.atI ((n :: r).map D.int) (k % ((n :: r).length : Int)) = some (.int ((n :: r).getD (k % ((n :: r).length : Int)).toNat 0)) := atI_ints (Int.emod_nonneg _ (by omega)) (Int.emod_lt_of_pos _ hp)
    have hlt : ((n :: r).length : Int) < 1073741824 := by omega
    have hne : (n :: r).isEmpty = false := rfl
    have hx : cell (n :: r) k = (let m := ((n :: r).getD (k % ((n :: r).length : Int)).toNat 0 * 48271 + 104729 * k + k / ((n :: r).length : Int) * 7919) % 2147483647; let m := m * m % 2147483629; (m * m + 69621 * m + k) % 2147483587) := rfl
    rw [hx]
    generalize n :: r = ns at *
    simp (disch := walk_at "dd") [F_l_cell_eq, b_l_cell, hne, hat]

end
section
variable {Z : Zs}
theorem F_l_place_v {c : Int} (h0 : 0 ≤ c) (h1 : c < 2147483587) : F_l_place Z [.int c] = .ok (.d (.int (place c))) := by
  have hlp := forF_inv (g := (SG.name 2 : SG (HY Z)).f) (body := (b_l_place_l1 Z).f) (vs := [2]) (ys := rg 0 4) (fun i => [.d (.int c), .d (.int (farS c (10 ^ 30) i)), .un]) (fun i y hy => by
    obtain ⟨hi, rfl⟩ := rg_get hy
    refine ⟨_, _, by simp; rfl, .inl (by simp (disch := walk_at "dd") [b_l_place_l1]; rfl), ?_⟩
    simp [farS])
  simp [farS_0] at hlp
  have q := emod_in c (m := 6) (by decide)
  have hat := atI_ints (xs := placeL c) q.1 (by show c % 6 < (6 : Nat); omega)
  simp only [placeL, List.map, e30] at hat
  have e : F_l_place Z [.int c] = .ok (.d (.int ((placeL c).getD (c % 6).toNat 0))) := by
    simp (disch := walk_at "dd") [F_l_place_eq, b_l_place, hlp, hat, placeL]
  exact e

end
section
variable {Z : Zs}
def spanF (c base : Int) : Option Int × Option Int :=
  let a := base + c / 16 % 61 - 30
  let b := a + (([0, 1, c / 1000 % 4, c / 1000 % 30] : List Int).getD (c / 976 % 4).toNat 0)
  if c % 16 = 0 then (none, some b) else if c % 16 = 1 then (some a, none) else if c % 160 = 2 then (none, none) else (some a, some b)
theorem spanF_le (c base : Int) : ∀ a b, (spanF c base).1 = some a → (spanF c base).2 = some b → a ≤ b ∧ b - a < 30 := by
  intro a b h1 h2
  unfold spanF at h1 h2
  have q := emod_in (c / 976) (m := 4) (by decide)
  have hx : 0 ≤ (([0, 1, c / 1000 % 4, c / 1000 % 30] : List Int).getD (c / 976 % 4).toNat 0) ∧ (([0, 1, c / 1000 % 4, c / 1000 % 30] : List Int).getD (c / 976 % 4).toNat 0) < 30 := by
    have : c / 976 % 4 = 0 ∨ c / 976 % 4 = 1 ∨ c / 976 % 4 = 2 ∨ c / 976 % 4 = 3 := by omega
    rcases this with e | e | e | e <;> rw [e] <;> simp <;> omega
  generalize ([0, 1, c / 1000 % 4, c / 1000 % 30] : List Int).getD (c / 976 % 4).toNat 0 = g at *
  by_cases k1 : c % 16 = 0
  · simp [k1] at h1
  · by_cases k2 : c % 16 = 1
    · simp [k2] at h2
    · by_cases k3 : c % 160 = 2
      · simp [k1, k2, k3] at h1
      · simp [k1, k2, k3] at h1 h2; omega
theorem F_l_span_v {c base : Int} : F_l_span Z [.int c, .int base] = .ok (.d (dS (spanF c base))) := by
  have q := emod_in (c / 976) (m := 4) (by decide)
  have hat := atI_ints (xs := [0, 1, c / 1000 % 4, c / 1000 % 30]) q.1 q.2
  simp only [List.map] at hat
  unfold spanF
  generalize ([0, 1, c / 1000 % 4, c / 1000 % 30] : List Int).getD (c / 976 % 4).toNat 0 = g at *
  by_cases k1 : c % 16 = 0
  · simp (disch := walk_at "dd") [F_l_span_eq, b_l_span, hat, k1]
  · by_cases k2 : c % 16 = 1
    · simp (disch := walk_at "dd") [F_l_span_eq, b_l_span, hat, k2]
    · by_cases k3 : c % 160 = 2
      · simp (disch := walk_at "dd") [F_l_span_eq, b_l_span, hat, k1, k2, k3]
      · simp (disch := walk_at "dd") [F_l_span_eq, b_l_span, hat, k1, k2, k3]

end
section
variable {Z : Zs}
/-- alike all through: what can be told, and told alike -/
theorem F_l_alike_self : ∀ (n m : Nat) (x : D), plD n x = true → n ≤ m → Fn_l_alike Z m [x, x] = .ok (.d (.bl true)) := by
  have flat : ∀ (m : Nat) (x : D), flatI x = true → Fn_l_alike Z m [x, x] = .ok (.d (.bl true)) := fun m x h => by
    cases x <;> first | (simp [flatI] at h; done) | (cases m <;> simp [F_l_alike_0, F_l_alike_s, b_l_alike, isTy_non_tuple, isTy_non_list, isTy_bl_tuple, isTy_bl_list, isTy_int_tuple, isTy_int_list, isTy_non_bool, isTy_bl_bool, isTy_int_bool, isNon])
  intro n
  induction n with
  | zero => intro m x h _; exact flat m x h
  | succ n ih =>
    intro m x h hm
    by_cases hf : flatI x = true
    · exact flat m x hf
    · have hf : flatI x = false := by simpa using hf
      obtain ⟨m, rfl⟩ : ∃ k, m = k + 1 := ⟨m - 1, by omega⟩
      have main : ∀ ys : List D, (x = .tup ys ∨ x = .lst ys) → ys.length ≤ 1000000 → ys.all (plD n) = true → Fn_l_alike Z (m + 1) [x, x] = .ok (.d (.bl true)) := fun ys hx hl hy => by
        have hlc : lcF (lcS (SG.name 2) (ST.yes : ST (HY Z)) (.call (Fn_l_alike Z m) (.cons (.op oIx (.var 0) (.var 2)) (.cons (.op oIx (.var 1) (.var 2)) .nil))) [.d x, .d x, .un]) (rg 0 ys.length) = .ok ((List.range ys.length).map fun _ => D.bl true) := lcF_rg fun i hi => by
          have hat : L2.atI ys (i : Int) = some (ys.getD i .non) := by
            have := atI_getD (xs := ys) (i := (i : Int)) (d := D.non) (by omega) (by omega)
            rwa [Int.toNat_natCast] at this
          have hp : plD n (ys.getD i .non) = true := by
            rw [List.getD_eq_getElem?_getD, List.getElem?_eq_getElem hi]
            exact List.all_eq_true.mp hy _ (List.getElem_mem hi)
          have := ih m _ hp (by omega)
          rw [List.getD_eq_getElem?_getD] at hat this
          rcases hx with rfl | rfl <;> simp [lcS, hat, this]
        have hh : hide [.d x, .d x, .un] [2] = [.d x, .d x, .un] := rfl
        have hir : inR (ys.length : Int) = true := inR_s (by omega) (by omega)
        have h16 : ys.length ≤ 16777216 := by omega
        have hal : allF [.lst ((List.range ys.length).map fun _ => D.bl true)] = some (.d (.bl true)) := by
          rw [allF_map]; simp
        rcases hx with rfl | rfl <;> simp [F_l_alike_s, b_l_alike, isTy_tup_tuple, isTy_tup_list, isTy_lst_tuple, isTy_lst_list, isTy_tup_bool, isTy_lst_bool, hir, hh, hlc, hal, h16]
      unfold plD at h
      rw [hf, Bool.false_or] at h
      cases x with
      | tup ys => simp only [Bool.and_eq_true, decide_eq_true_eq] at h; exact main ys (.inl rfl) h.1 h.2
      | lst ys => simp only [Bool.and_eq_true, decide_eq_true_eq] at h; exact main ys (.inr rfl) h.1 h.2
      | _ => exact (nomatch h)
theorem F_l_alike_v {x : D} (h : plD 2 x = true) : F_l_alike Z [x, x] = .ok (.d (.bl true)) := F_l_alike_self 2 2 x h (Nat.le_refl _)

end
section
variable {Z : Zs}
section
open _root_.PySem.NumText
theorem figs_sub {l : List Nat} : ∀ c ∈ figs l, c ∈ l := by
  intro c hc
  unfold figs at hc
  split at hc
  · exact List.mem_of_mem_tail hc
  · exact hc
theorem inS_nofig (c : Nat) : oNotIn.f (.str (tx [c])) (.str (tx [48, 49, 50, 51, 52, 53, 54, 55, 56, 57])) = some (.d (.bl (!isDig c))) := by
  rw [oNotIn_f, inS_fig]; rfl
theorem F_l_number_v {l : List Nat} (h : l.length ≤ 640) (hu : ∀ c ∈ l, c < 1114112) : F_l_number Z [.str (tx l)] = .ok (.d (dE (numOf l))) := by
  have hl : (tx l).length ≤ 16777216 := by rw [lenS]; omega
  have ht : cutS (tx l) none (some 1) = tx (l.take 1) := cutS_to (by decide)
  have h45 : (tx (l.take 1) = tx [45]) = (l.head? = some 45) := by
    rw [eqS]
    cases l with
    | nil => simp
    | cons a r => simp
  have hcut : cutS (tx l) (some 1) none = tx (l.drop 1) := cutS_from (by decide)
  have hfl : (figs l).length ≤ l.length := by unfold figs; split <;> simp
  have hlen : (chD (tx (figs l))).length ≤ 16777216 := by rw [chD_S, List.length_map]; omega
  have hE : decide (tx (figs l) = tx []) = decide (figs l = []) := by rw [decide_eq_decide]; exact eqS
  have h0 : decide (tx l = tx [48]) = decide (l = [48]) := by rw [decide_eq_decide]; exact eqS
  have hh : hide [.d (.str (tx l)), .d (.str (tx (figs l))), .un, .un] [2] = [.d (.str (tx l)), .d (.str (tx (figs l))), .un, .un] := rfl
  have hc : lcF (lcS (SG.name 2) (ST.of (.op oNotIn (.var 2) (.str "0123456789")) : ST (HY Z)) (.var 2) [.d (.str (tx l)), .d (.str (tx (figs l))), .un, .un]) (chD (tx (figs l))) = .ok (((figs l).filter fun c => !isDig c).map fun c => D.str (tx [c])) := by
    rw [chD_S]
    exact lcF_some fun c _ => by
      cases q : isDig c <;> simp [lcS, cF_S, inS_fig, q]
  have hne : neF2 (.lst (((figs l).filter fun c => !isDig c).map fun c => D.str (tx [c]))) (.lst []) = some (.d (.bl (!(figs l).all isDig))) := by
    have := neF2_st0 (a := ((figs l).filter fun c => !isDig c).map fun c => [c]) (okTx_of fun x hx d hd => by obtain ⟨c, hc, rfl⟩ := List.mem_map.mp hx; rw [List.mem_singleton.mp hd]; exact hu c (figs_sub c ((List.mem_filter.mp hc).1)))
    rw [List.map_map] at this
    refine this.trans ?_
    congr 4
    rw [Bool.eq_iff_iff]
    simp
  have hix : ∀ c, (figs l).head? = some c → ixF (.str (tx (figs l))) (.int 0) = some (.d (.str (tx [c]))) := fun c e => ixF_ch e (by omega)
  have hone : ∀ c : Nat, decide (tx [c] = tx [48]) = decide (c = 48) := fun c => by rw [decide_eq_decide, eqS]; simp
  have hfor : (figs l).all isDig = true → forF (SG.name 2 : SG (HY Z)).f (b_l_number_l1 Z).f [2] (chD (tx (figs l))) [.d (.str (tx l)), .d (.str (tx (figs l))), .un, .d (.int 0)] = .nx [.d (.str (tx l)), .d (.str (tx (figs l))), .un, .d (.int (digitsVal (figs l) : Nat))] := fun ha => by
    have := forF_inv (g := (SG.name 2 : SG (HY Z)).f) (body := (b_l_number_l1 Z).f) (vs := [2]) (ys := chD (tx (figs l))) (fun i => [.d (.str (tx l)), .d (.str (tx (figs l))), .un, .d (.int (digitsVal ((figs l).take i) : Nat))]) (fun i y hy => by
      rw [chD_S, List.getElem?_map] at hy
      obtain ⟨c, hc, rfl⟩ := Option.map_eq_some_iff.mp hy
      obtain ⟨hi, hc'⟩ := List.getElem?_eq_some_iff.mp hc
      have hd : isDig c = true := List.all_eq_true.mp ha c (hc' ▸ List.getElem_mem hi)
      have hd2 : 48 ≤ c ∧ c ≤ 57 := by unfold isDig at hd; simpa using hd
      obtain ⟨r, hr⟩ := idxS hd2
      have hix := omF_idx hr
      have e : (figs l).take (i + 1) = (figs l).take i ++ [c] := by rw [List.take_add_one, hc]; rfl
      refine ⟨_, _, by simp; rfl, .inl (by simp (disch := walk_at "dd") [b_l_number_l1, cF_S, hix]; rfl), ?_⟩
      simp
      rw [e, digitsVal_snoc]
      omega)
    have e1 : digitsVal ((figs l).take 0) = 0 := rfl
    have e2 : (figs l).take (chD (tx (figs l))).length = figs l := by rw [chD_S, List.length_map, List.take_length]
    rw [e2, e1] at this
    exact this
  have hint : ∀ b : Bool, intSF [.bl b] = some (.d (.int (if b then 1 else 0))) := fun b => rfl
  have h2 : ∀ n : Int, L2.atI [D.int n, D.int (-n)] 0 = some (.int n) := fun n => rfl
  have h3 : ∀ n : Int, L2.atI [D.int n, D.int (-n)] 1 = some (.int (-n)) := fun n => rfl
  have hf2 : (l.head? = some 45 ∧ cutS (tx l) (some 1) none = tx (figs l)) ∨ (¬ l.head? = some 45 ∧ figs l = l) := by
    unfold figs
    by_cases q : l.head? = some 45
    · exact .inl ⟨q, by rw [if_pos q, hcut, List.drop_one]⟩
    · exact .inr ⟨q, by rw [if_neg q]⟩
  unfold numOf
  generalize figs l = f at *
  have hlf : (tx f).length ≤ 16777216 := by rw [lenS]; omega
  by_cases k1 : f = []
  · have hEt : (tx f = tx []) = True := eq_true (by rw [k1])
    have k1t : (f = []) = True := eq_true k1
    clear k1
    rcases hf2 with ⟨q, e⟩ | ⟨q, e⟩
    · simp (disch := walk_at "dd") [F_l_number_eq, b_l_number, c45_S, cE_S, ht, h45, q, e, cutF, hl, hlf, hEt, k1t]
    · subst e
      simp (disch := walk_at "dd") [F_l_number_eq, b_l_number, c45_S, cE_S, ht, h45, q, cutF, hl, hEt, k1t]
  · obtain ⟨c, r, hcr⟩ : ∃ c r, f = c :: r := by cases f with | nil => exact absurd rfl k1 | cons a r => exact ⟨a, r, rfl⟩
    have hhd : f.head? = some c := by rw [hcr]; rfl
    have hx := hix c hhd
    have hE2 : ¬ tx f = tx [] := fun z => k1 (eqS.mp z)
    have k1f := eq_false k1
    by_cases k2 : f.all isDig = true
    · have hfo := hfor k2
      rw [k2] at hne
      rw [k2, hhd]
      rcases hf2 with ⟨q, e⟩ | ⟨q, e⟩
      · rcases Classical.propComplete (c = 48) with p1 | p1 <;> rcases Classical.propComplete (l = [48]) with p2 | p2 <;> simp (disch := walk_at "dd") [F_l_number_eq, b_l_number, c45_S, cE_S, c48_S, ht, h45, q, e, cutF, hl, hlf, hlen, hE2, hh, hc, hne, hx, hone, h0, hfo, k1f, h2, h3, p1, p2]
      · subst e
        rcases Classical.propComplete (c = 48) with p1 | p1 <;> rcases Classical.propComplete (f = [48]) with p2 | p2 <;> simp (disch := walk_at "dd") [F_l_number_eq, b_l_number, c45_S, cE_S, c48_S, ht, h45, q, cutF, hl, hlf, hlen, hE2, hh, hc, hne, hx, hone, h0, hfo, k1f, h2, h3, p1, p2]
    · have k2 : f.all isDig = false := by simpa using k2
      rw [k2] at hne
      rw [k2]
      rcases hf2 with ⟨q, e⟩ | ⟨q, e⟩
      · simp (disch := walk_at "dd") [F_l_number_eq, b_l_number, c45_S, cE_S, ht, h45, q, e, cutF, hl, hlf, hlen, hE2, hh, hc, hne, k1f]
      · subst e
        simp (disch := walk_at "dd") [F_l_number_eq, b_l_number, c45_S, cE_S, ht, h45, q, cutF, hl, hlf, hlen, hE2, hh, hc, hne, k1f]
end

end
section
variable {Z : Zs}
section
open _root_.PySem.NumText
theorem numOf_no46 {l : List Nat} (h : 46 ∈ l) : numOf l = none := by
  cases e : numOf l with
  | none => rfl
  | some n => have := (numOf_signs e).2 46 h; omega
/-- what the law's walk of a text tells at a place -/
def readAt (l : List Nat) (i : Nat) : Option (Option Int × Option Int) :=
  if (l.drop i).take 2 = [46, 46] ∧ (numOf (l.take i) ≠ none ∨ i = 0) ∧ (numOf (l.drop (i + 2)) ≠ none ∨ l.drop (i + 2) = []) then
    (match numOf (l.take i), numOf (l.drop (i + 2)) with | some a, some b => if a < b then some (some a, some b) else none | x, y => some (x, y))
  else none
theorem findSome_none {α β : Type} {f : α → Option β} {l : List α} (h : ∀ x ∈ l, f x = none) : l.findSome? f = none := List.findSome?_eq_none_iff.mpr h
theorem pre2 {l : List Nat} : TL.pre [46, 46] l = decide (l.take 2 = [46, 46]) := by
  unfold TL.pre
  rw [Bool.eq_iff_iff, beq_iff_eq, decide_eq_true_eq]
  exact Iff.rfl
theorem read_eq {l : List Nat} (h : numOf l = none) : (List.range (l.length - 1)).findSome? (readAt l) = spanOf l := by
  unfold spanOf
  rcases par_cases (A := [46, 46]) (l := l) (by simp) with ⟨e, k⟩ | ⟨i, e, k1, k2, k3⟩
  · rw [e, h]
    exact findSome_none fun i _ => by
      have := k i
      rw [pre2, decide_eq_false_iff_not] at this
      unfold readAt
      rw [if_neg (fun z => this z.1)]
  · rw [e]
    simp only [List.length_cons, List.length_nil] at k2 ⊢
    rw [pre2, decide_eq_true_eq] at k1
    have hd : l.length - 1 = i + (1 + (l.length - 2 - i)) := by omega
    have h1 : (List.range i).findSome? (readAt l) = none := findSome_none fun j hj => by
      have := k3 j (List.mem_range.mp hj)
      rw [pre2, decide_eq_false_iff_not] at this
      unfold readAt
      rw [if_neg (fun z => this z.1)]
    have h46 : ∀ j, i < j → 46 ∈ l.take j := fun j hj => by
      have : l[i]? = some 46 := by
        have h0 : ((l.drop i).take 2)[0]? = some 46 := by rw [k1]; rfl
        rw [List.getElem?_take_of_lt (by decide), List.getElem?_drop] at h0
        simpa using h0
      exact List.mem_iff_getElem?.mpr ⟨i, by rw [List.getElem?_take_of_lt hj]; exact this⟩
    have h3 : (List.range' (i + 1) (l.length - 2 - i)).findSome? (readAt l) = none := findSome_none fun j hj => by
      have hj := (List.mem_range'_1.mp hj).1
      unfold readAt
      rw [if_neg]
      rintro ⟨_, z | z, _⟩
      · exact z (numOf_no46 (h46 j (by omega)))
      · omega
    have hr : List.range (l.length - 1) = List.range i ++ (i :: List.range' (i + 1) (l.length - 2 - i)) := by
      conv => lhs; rw [hd, List.range_eq_range', ← List.range'_append_1, ← List.range'_append_1, ← List.range_eq_range']
      simp
    rw [hr, List.findSome?_append, h1, Option.none_or, List.findSome?_cons]
    have hi : readAt l i = spanPair (l.take i) (l.drop (i + 2)) := by
      unfold readAt spanPair
      have hn : (l.take i = []) ↔ i = 0 := by
        rw [List.take_eq_nil_iff]
        constructor
        · rintro (z | z)
          · exact z
          · rw [z] at k2; simp at k2
        · exact .inl
      cases qa : numOf (l.take i) with
      | none =>
        cases qb : numOf (l.drop (i + 2)) with
        | none =>
          by_cases p1 : l.take i = [] <;> by_cases p2 : l.drop (i + 2) = [] <;> simp [k1, p1, p2, ← hn]
        | some b => by_cases p1 : l.take i = [] <;> simp [k1, p1, ← hn]
      | some a =>
        cases qb : numOf (l.drop (i + 2)) with
        | none => by_cases p2 : l.drop (i + 2) = [] <;> simp [k1, p2]
        | some b =>
          by_cases p : b ≤ a
          · simp [k1, p, Int.not_lt.mpr p]
          · simp [k1, p, Int.not_le.mp p]
    rw [hi]
    cases q : spanPair (l.take i) (l.drop (i + 2)) with
    | some s => rfl
    | none => rw [h3]
theorem F_l_read_v {l : List Nat} (h : l.length ≤ 640) (hu : ∀ c ∈ l, c < 1114112) : F_l_read Z [.str (tx l)] = .ok (.d (dO (spanOf l))) := by
  have hl : (tx l).length = l.length := lenS l
  have hls : (tx l).length ≤ 16777216 := by rw [hl]; omega
  have hn := F_l_number_v (Z := Z) h hu
  cases q : numOf l with
  | some n =>
    have e : spanOf l = some (some n, some n) := by
      unfold spanOf
      have h46 : 46 ∉ l := fun z => by rw [numOf_no46 z] at q; cases q
      rw [TL.par_none1 h46, q]; rfl
    rw [q] at hn
    rw [e]
    simp (disch := walk_at "dd") [F_l_read_eq, b_l_read, hn]
  | none =>
    rw [q] at hn
    have hfor := forF_fsR (g := (SG.name 2 : SG (HY Z)).f) (body := (b_l_read_l1 Z).f) (vs := [2, 3, 4, 5]) (δ := [.d (.str (tx l)), .d (dE none), .un, .un, .un, .un]) (lo := 0) (n := l.length - 1) (q := fun i => (readAt l i).map fun s => S.d (dS s)) (fun i hi => by
      refine ⟨_, by simp; rfl, ?_⟩
      have ca : cutS (tx l) none (some (i : Int)) = tx (l.take i) := by rw [cutS_to (by omega), Int.toNat_natCast]
      have cb : cutS (tx l) (some ((i : Int) + 2)) none = tx (l.drop (i + 2)) := by rw [cutS_from (by omega)]; congr 2
      have cm : cutS (tx l) (some (i : Int)) (some ((i : Int) + 2)) = tx ((l.drop i).take 2) := by
        rw [cutS_mid (by omega) (by omega), Int.toNat_natCast]
        have : ((i : Int) + 2 - i).toNat = 2 := by omega
        rw [this]
      have na := F_l_number_v (Z := Z) (l := l.take i) (by rw [List.length_take]; omega) (fun c hc => hu c (List.mem_of_mem_take hc))
      have nb := F_l_number_v (Z := Z) (l := l.drop (i + 2)) (by rw [List.length_drop]; omega) (fun c hc => hu c (List.mem_of_mem_drop hc))
      have hEE : ∀ x y : List Nat, (tx x = tx y) = (x = y) := fun a b => propext eqS
      unfold readAt
      generalize (l.drop i).take 2 = m at *
      generalize l.take i = x at *
      generalize l.drop (i + 2) = y at *
      rcases Classical.propComplete (m = [46, 46]) with p0 | p0
      · cases qa : numOf x with
        | none =>
          rw [qa] at na
          rcases Classical.propComplete ((i : Int) = 0) with p1 | p1
          · have p1' : (i = 0) = True := eq_true (by have := of_eq_true p1; omega)
            cases qb : numOf y with
            | none =>
              rw [qb] at nb
              rcases Classical.propComplete (y = []) with p2 | p2 <;> simp (disch := walk_at "dd") [b_l_read_l1, ca, cb, cm, na, nb, hEE, cE_S, cDD_S, cutF, hls, p0, p1, p2, p1']
            | some b =>
              rw [qb] at nb
              simp (disch := walk_at "dd") [b_l_read_l1, ca, cb, cm, na, nb, hEE, cE_S, cDD_S, cutF, hls, p0, p1, p1']
          · have p1' : (i = 0) = False := eq_false (fun z => of_eq_false p1 (by omega))
            simp (disch := walk_at "dd") [b_l_read_l1, ca, cb, cm, na, nb, hEE, cE_S, cDD_S, cutF, hls, p0, p1, p1']
        | some a =>
          rw [qa] at na
          cases qb : numOf y with
          | none =>
            rw [qb] at nb
            rcases Classical.propComplete (y = []) with p2 | p2 <;> simp (disch := walk_at "dd") [b_l_read_l1, ca, cb, cm, na, nb, hEE, cE_S, cDD_S, cutF, hls, p0, p2]
          | some b =>
            rw [qb] at nb
            by_cases p : a < b <;> simp (disch := walk_at "dd") [b_l_read_l1, ca, cb, cm, na, nb, hEE, cE_S, cDD_S, cutF, hls, p0, p]
      · simp (disch := walk_at "dd") [b_l_read_l1, ca, cb, cm, na, nb, hEE, cE_S, cDD_S, cutF, hls, p0])
    have hr : (List.range (l.length - 1)).findSome? (fun i => (readAt l i).map fun s => S.d (dS s)) = (spanOf l).map fun s => S.d (dS s) := by
      rw [← read_eq q]
      rw [List.map_findSome?]; rfl
    rw [hr] at hfor
    have hl2 : l.length ≤ 16777216 := by omega
    have hrg : rg 0 ((l.length : Int) - 1).toNat = rg 0 (l.length - 1) := by congr 1; omega
    have hin : inR ((l.length : Int) - 1) = true := inR_s (by omega) (by omega)
    cases e : spanOf l with
    | none => rw [e] at hfor; simp (disch := walk_at "dd") [F_l_read_eq, b_l_read, hn, lenF, hl, hl2, hin, hrg, hfor]
    | some s => rw [e] at hfor; simp (disch := walk_at "dd") [F_l_read_eq, b_l_read, hn, lenF, hl, hl2, hin, hrg, hfor]
end

end
section
variable {Z : Zs}
theorem F_l_text_v {s : Option Int × Option Int} (h1 : ∀ i, s.1 = some i → i.natAbs.log2 < 1920) (h2 : ∀ i, s.2 = some i → i.natAbs.log2 < 1920)
    (k1 : (endS s.1).length ≤ 4000) (k2 : (endS s.2).length ≤ 4000) : F_l_text Z [dS s] = .ok (.d (.str (tx (spanS s)))) := by
  obtain ⟨a, b⟩ := s
  have hc : lcF (lcS (SG.name 2) (ST.yes : ST (HY Z)) (.ifE (.of (.op oIsN (.var 2) .non)) (.str "") (.cb bStr (.cons (.var 2) .nil))) [.d (dS (a, b)), .un, .un]) [dE a, dE b] = .ok [.str (tx (endS a)), .str (tx (endS b))] := by
    have one : ∀ e : Option Int, (∀ i, e = some i → i.natAbs.log2 < 1920) → lcS (SG.name 2) (ST.yes : ST (HY Z)) (.ifE (.of (.op oIsN (.var 2) .non)) (.str "") (.cb bStr (.cons (.var 2) .nil))) [.d (dS (a, b)), .un, .un] (dE e) = .ok (some (.str (tx (endS e)))) := fun e h => by
      cases e with
      | none => simp [lcS, cE_S, endS]
      | some i => simp [lcS, strF_int (h i rfl), str_rep, endS]
    unfold lcF
    rw [one a h1]
    unfold lcF
    rw [one b h2]
    rfl
  rw [cE_S] at hc
  have hh : hide [.d (dS (a, b)), .un, .un] [2] = [.d (dS (a, b)), .un, .un] := rfl
  have i0 : L2.atI [D.str (tx (endS a)), D.str (tx (endS b))] 0 = some (.str (tx (endS a))) := rfl
  have i1 : L2.atI [D.str (tx (endS a)), D.str (tx (endS b))] 1 = some (.str (tx (endS b))) := rfl
  have ha : addF (.str (tx (endS a))) (.str (tx [46, 46])) = some (.d (.str (tx (endS a ++ [46, 46])))) := addF_tx (by simp at *; omega)
  have hb : addF (.str (tx (endS a ++ [46, 46]))) (.str (tx (endS b))) = some (.d (.str (tx (endS a ++ [46, 46] ++ endS b)))) := addF_tx (by simp at *; omega)
  have hE : ∀ x : List Nat, (tx x = tx []) = (x = []) := fun a => propext eqS
  have hEE : ∀ x y : List Nat, (tx x = tx y) = (x = y) := fun a b => propext eqS
  have hcond : (endS a = endS b ∧ endS a ≠ []) ↔ (a ≠ none ∧ a = b) := by
    cases a with
    | none => cases b <;> simp [endS]
    | some i =>
      cases b with
      | none => simp [endS, numS_ne]
      | some j =>
        simp only [endS]
        constructor
        · rintro ⟨h, _⟩; exact ⟨by simp, by rw [numS_inj h]⟩
        · rintro ⟨_, h⟩; cases h; exact ⟨rfl, numS_ne _⟩
  have hsp : tx (spanS (a, b)) = if endS a = endS b ∧ endS a ≠ [] then tx (endS a) else tx (endS a ++ [46, 46] ++ endS b) := by
    unfold spanS
    by_cases q : a ≠ none ∧ a = b
    · rw [if_pos (hcond.mpr q), if_pos q]
    · rw [if_neg (fun z => q (hcond.mp z)), if_neg q, List.append_assoc]
  rw [hsp]
  clear hsp hcond h1 h2
  generalize endS a = x at *
  generalize endS b = y at *
  rcases Classical.propComplete (x = y) with p1 | p1 <;> rcases Classical.propComplete (x = []) with p2 | p2 <;> simp (disch := walk_at "dd") [F_l_text_eq, b_l_text, hh, hc, i0, i1, hEE, cE_S, cDD_S, ha, hb, p1, p2]

end
section
variable {Z : Zs}
def oddS : List Str := ["", ".", "..", "...", "....", "--5", "-0", "00", "05", "5..5", "5..4", "-5..-7", "-7..-5", "+5", " 5", "5 ", "5..", "..-0", "1.2", "-", "..--1", "1_0", "..", "0", "-1", "0..1", "1e3", "x", "..x", "5....6", "-..5"]
theorem odd_ok : oddS.all (fun x => decide (x.length ≤ 6) && x.cps.toList.all fun c => decide (c < 1114112)) = true := by decide +kernel
def goodT (m : List Nat) : Prop := m.length ≤ 640 ∧ ∀ c ∈ m, c < 1114112
theorem F_l_bent_v {l : List Nat} {c : Int} (h : l.length ≤ 600) (hu : ∀ c ∈ l, c < 1114112) : ∃ m, F_l_bent Z [.str (tx l), .int c] = .ok (.d (.str (tx m))) ∧ goodT m := by
  have q1 := emod_in (c / 5) (m := 31) (by decide)
  obtain ⟨o, hat, ho⟩ := atI_ex (fun x : D => ∃ m, x = .str (tx m) ∧ goodT m) (xs := oddS.map D.str) (i := c / 5 % 31) q1.1 (by have := q1.2; simpa [oddS] using this) (fun x hx => by
    obtain ⟨z, hz, rfl⟩ := List.mem_map.mp hx
    have := List.all_eq_true.mp odd_ok z hz
    rw [Bool.and_eq_true, decide_eq_true_eq] at this
    refine ⟨z.cps.toList, by congr 1, ?_, fun c hc => by have := List.all_eq_true.mp this.2 c hc; simpa using this⟩
    have h1 := this.1
    unfold Str.length at h1
    rw [Array.length_toList]; omega)
  obtain ⟨mo, rfl, go⟩ := ho
  simp only [oddS, List.map] at hat
  have q2 := emod_in (c / 500) (m := 14) (by decide)
  obtain ⟨s, hs, gs⟩ : ∃ s, ixF (.str "0123456789-. +") (.int (c / 500 % 14)) = some (.d (.str (tx [s]))) ∧ s < 1114112 := by
    obtain ⟨s, e, hs⟩ := atI_ex (fun x : Nat => x < 1114112) (xs := ("0123456789-. +" : Str).cps.toList) (i := c / 500 % 14) q2.1 (by have := q2.2; exact this) (by decide +kernel)
    exact ⟨s, ixF_tx (l := ("0123456789-. +" : Str).cps.toList) e (by decide +kernel), hs⟩
  have hl : (tx l).length = l.length := lenS l
  have hl2 : l.length ≤ 16777216 := by omega
  have q3 := emod_in (c / 5) (m := l.length + 1) (by omega)
  have hcast : ((l.length : Int) + 1) = ((l.length + 1 : Nat) : Int) := by omega
  have q4 := emod_in c (m := 5) (by decide)
  have hk : 0 ≤ c / 5 % ((l.length : Int) + 1) := by rw [hcast]; exact q3.1
  have hpos : 0 < (l.length : Int) + 1 := by omega
  generalize hat' : c / 5 % ((l.length : Int) + 1) = k at *
  have ca : cutS (tx l) none (some k) = tx (l.take k.toNat) := cutS_to hk
  have cb : cutS (tx l) (some k) none = tx (l.drop k.toNat) := cutS_from hk
  have cc : cutS (tx l) (some (k + 1)) none = tx (l.drop (k + 1).toNat) := cutS_from (by omega)
  have gt : goodT l := ⟨by omega, hu⟩
  have gj : ∀ a b : List Nat, a.length ≤ 605 → b.length ≤ 600 → (∀ c ∈ a, c < 1114112) → (∀ c ∈ b, c < 1114112) → a.length + b.length ≤ 640 → goodT (a ++ b) := fun a b _ _ h1 h2 h3 => ⟨by rw [List.length_append]; exact h3, fun c hc => (List.mem_append.mp hc).elim (h1 c) (h2 c)⟩
  have hta : (l.take k.toNat).length ≤ l.length := by rw [List.length_take]; omega
  have htk : (l.take k.toNat).length = min k.toNat l.length := List.length_take
  have htb : (l.drop k.toNat).length = l.length - k.toNat := List.length_drop
  have htc : (l.drop (k + 1).toNat).length = l.length - (k + 1).toNat := List.length_drop
  have ua : ∀ c ∈ l.take k.toNat, c < 1114112 := fun c hc => hu c (List.mem_of_mem_take hc)
  have ub : ∀ c ∈ l.drop k.toNat, c < 1114112 := fun c hc => hu c (List.mem_of_mem_drop hc)
  have uc : ∀ c ∈ l.drop (k + 1).toNat, c < 1114112 := fun c hc => hu c (List.mem_of_mem_drop hc)
  have us : ∀ c ∈ l.take k.toNat ++ [s], c < 1114112 := fun c hc => by
    rcases List.mem_append.mp hc with h | h
    · exact ua c h
    · rw [List.mem_singleton.mp h]; exact gs
  have ls : (l.take k.toNat ++ [s]).length = (l.take k.toNat).length + 1 := by simp
  have g3 := gj (l.take k.toNat ++ [s]) (l.drop k.toNat) (by omega) (by omega) us ub (by omega)
  have g4 := gj (l.take k.toNat) (l.drop (k + 1).toNat) (by omega) (by omega) ua uc (by omega)
  have g5 := gj (l.take k.toNat ++ [s]) (l.drop (k + 1).toNat) (by omega) (by omega) us uc (by omega)
  have a1 : addF (.str (tx (l.take k.toNat))) (.str (tx [s])) = some (.d (.str (tx (l.take k.toNat ++ [s])))) := addF_tx (by simp; omega)
  have a3 : addF (.str (tx (l.take k.toNat ++ [s]))) (.str (tx (l.drop k.toNat))) = some (.d (.str (tx (l.take k.toNat ++ [s] ++ l.drop k.toNat)))) := addF_tx (by omega)
  have a4 : addF (.str (tx (l.take k.toNat))) (.str (tx (l.drop (k + 1).toNat))) = some (.d (.str (tx (l.take k.toNat ++ l.drop (k + 1).toNat)))) := addF_tx (by omega)
  have a5 : addF (.str (tx (l.take k.toNat ++ [s]))) (.str (tx (l.drop (k + 1).toNat))) = some (.d (.str (tx (l.take k.toNat ++ [s] ++ l.drop (k + 1).toNat)))) := addF_tx (by omega)
  generalize l.take k.toNat ++ [s] ++ l.drop k.toNat = m3 at *
  generalize l.take k.toNat ++ [s] ++ l.drop (k + 1).toNat = m5 at *
  generalize l.take k.toNat ++ l.drop (k + 1).toNat = m4 at *
  obtain ⟨m, hm, gm⟩ := atI_ex (fun x : List Nat => goodT x) (xs := [mo, l, m3, m4, m5]) (i := c % 5) q4.1 (by have := q4.2; simpa using this) (by
    intro x hx
    simp only [List.mem_cons, List.not_mem_nil, or_false] at hx
    rcases hx with rfl | rfl | rfl | rfl | rfl <;> assumption)
  have hm' : L2.atI [D.str (tx mo), D.str (tx l), D.str (tx m3), D.str (tx m4), D.str (tx m5)] (c % 5) = some (.str (tx m)) := by
    have := atI_map (f := fun x => D.str (tx x)) hm
    exact this
  generalize l.take k.toNat = ta at *
  generalize l.drop k.toNat = tb at *
  generalize l.drop (k + 1).toNat = tc at *
  generalize ta ++ [s] = ts at *
  clear g3 g4 g5 gj ua ub uc us
  refine ⟨m, ?_, gm⟩
  simp (disch := walk_at "dd") [F_l_bent_eq, b_l_bent, hat, hs, lenF, hl, hl2, hat', cutF, ca, cb, cc, a1, a3, a4, a5, hm', hpos]

end
section
variable {Z : Zs}
abbrev lawI (ns : List Int) : List S := [.d (scrD ns), .un, .un, .un, .un, .un, .un]
abbrev lawW : List Nat := [1, 2, 3, 4, 5, 6]
theorem log_lt {i : Int} (h : i.natAbs < 10 ^ 60) : i.natAbs.log2 < 1920 := by
  by_cases z : i.natAbs = 0
  · rw [z]; decide
  · exact (Nat.log2_lt z).mpr (Nat.lt_trans h (by decide +kernel))
theorem place_bd (c : Int) : (place c).natAbs ≤ 10 ^ 30 := by
  have f := farS_in (c := c) (m := 10 ^ 30) (by decide) 4
  have q := emod_in c (m := 6) (by decide)
  unfold place placeL
  generalize farS c (10 ^ 30) 4 = g at *
  have : c % 6 = 0 ∨ c % 6 = 1 ∨ c % 6 = 2 ∨ c % 6 = 3 ∨ c % 6 = 4 ∨ c % 6 = 5 := by omega
  rw [e30] at f
  rcases this with e | e | e | e | e | e <;> rw [e] <;> simp <;> omega
theorem numS_good {i : Int} (h : i.natAbs < 10 ^ 60) : (numS i).length ≤ 61 ∧ ∀ c ∈ numS i, c < 1114112 :=
  ⟨numS_len (k := 60) (by decide) h, fun c hc => by have := numS_signs i c hc; omega⟩
theorem endS_good {e : Option Int} (h : ∀ i, e = some i → i.natAbs < 10 ^ 60) : (endS e).length ≤ 61 ∧ ∀ c ∈ endS e, c < 1114112 := by
  cases e with
  | none => exact ⟨by simp [endS], fun c hc => by simp [endS] at hc⟩
  | some i => exact numS_good (h i rfl)
theorem spanS_good {s : Option Int × Option Int} (h1 : ∀ i, s.1 = some i → i.natAbs < 10 ^ 60) (h2 : ∀ i, s.2 = some i → i.natAbs < 10 ^ 60) : (spanS s).length ≤ 130 ∧ ∀ c ∈ spanS s, c < 1114112 := by
  have a := endS_good h1
  have b := endS_good h2
  unfold spanS
  split
  · exact ⟨by omega, a.2⟩
  · refine ⟨by simp; omega, fun c hc => ?_⟩
    simp only [List.mem_append, List.mem_cons, List.not_mem_nil, or_false] at hc
    rcases hc with h | (h | h) | h
    · exact a.2 c h
    · omega
    · omega
    · exact b.2 c h
theorem plD_dO (s : Option (Option Int × Option Int)) : plD 2 (dO s) = true := by
  cases s with
  | none => rfl
  | some s => obtain ⟨a, b⟩ := s; cases a <;> cases b <;> rfl
theorem law_c3 {ns : List Int} {k c n : Int} {s : Option Int × Option Int} {l : List Nat} (hl : ns.length ≤ 63) (hn : n.natAbs < 10 ^ 60) (l1 : l.length ≤ 130) (l2 : ∀ c ∈ l, c < 1114112) :
    ∃ δ', (b_law_c3 Z).f [.d (scrD ns), .d (.int k), .d (.int c), .d (dS s), .d (.str (tx l)), .d (.int n), .un] = .nx δ' ∧ wpF lawW δ' = lawI ns := by
  have hc := F_l_cell_v (Z := Z) (k := 3 * k + 2) hl
  generalize cell ns (3 * k + 2) = d at *
  have t := atI_two (a := D.str (tx l)) (b := .str (tx (numS n))) (i := c / 24 % 2) (by omega)
  have g := numS_good hn
  have ht : ∃ m, (if c / 24 % 2 = 0 then D.str (tx l) else .str (tx (numS n))) = .str (tx m) ∧ m.length ≤ 600 ∧ ∀ c ∈ m, c < 1114112 := by
    split
    · exact ⟨l, rfl, by omega, l2⟩
    · exact ⟨numS n, rfl, by omega, g.2⟩
  obtain ⟨m, e, m1, m2⟩ := ht
  rw [e] at t
  obtain ⟨w, hb, gw⟩ := F_l_bent_v (Z := Z) (c := d) m1 m2
  have b1 := F_span_by_v (Z := Z) gw.1
  have b2 := F_l_read_v (Z := Z) gw.1 gw.2
  have b3 := F_number_by_v (Z := Z) gw.1
  have b4 := F_l_number_v (Z := Z) gw.1 gw.2
  have a1 := F_l_alike_v (Z := Z) (plD_dO (spanOf w))
  have a2 := F_l_alike_v (Z := Z) (plD_dE 2 (numOf w))
  have s1 := strF_int (log_lt hn)
  generalize dO (spanOf w) = x at *
  generalize dE (numOf w) = y at *
  exact ⟨_, by simp (disch := walk_at "dd") [b_law_c3, hc, s1, str_rep, t, hb, b1, b2, b3, b4, a1, a2]; rfl, by simp⟩
theorem law_c2 {ns : List Int} {k c : Int} {s : Option Int × Option Int} {l : List Nat} (hl : ns.length ≤ 63) (c0 : 0 ≤ c) (c1 : c < 2147483587) (l1 : l.length ≤ 130) (l2 : ∀ c ∈ l, c < 1114112) :
    ∃ δ', (b_law_c2 Z).f [.d (scrD ns), .d (.int k), .d (.int c), .d (dS s), .d (.str (tx l)), .un, .un] = .nx δ' ∧ wpF lawW δ' = lawI ns := by
  have hc := F_l_cell_v (Z := Z) (k := 3 * k + 2) hl
  have hcp := cell_pos ns (3 * k + 2)
  have pl := F_l_place_v (Z := Z) hcp.1 hcp.2
  have pb := place_bd (cell ns (3 * k + 2))
  generalize cell ns (3 * k + 2) = d at *
  generalize place d = p at *
  have h0 : 0 ≤ c * c := Int.mul_nonneg c0 c0
  have h1 : c * c ≤ 2147483587 * 2147483587 := Int.mul_le_mul (by omega) (by omega) c0 (by decide)
  have hn : (p * (c * c + 1)).natAbs < 10 ^ 60 := by
    rw [Int.natAbs_mul]
    have : (c * c + 1).natAbs ≤ 4611686018427387904 := by omega
    calc p.natAbs * (c * c + 1).natAbs ≤ 10 ^ 30 * 4611686018427387904 := Nat.mul_le_mul pb this
      _ < 10 ^ 60 := by decide
  have s1 := strF_int (log_lt hn)
  have n1 := F_number_text_v (Z := Z) (log_lt hn)
  have n2 := F_number_by_v (Z := Z) (l := numS (p * (c * c + 1))) (by have := (numS_good hn).1; omega)
  rw [numOf_numS] at n2
  have al := F_l_alike_v (Z := Z) (x := .int (p * (c * c + 1))) rfl
  obtain ⟨δ', g1, g2⟩ := law_c3 (Z := Z) (ns := ns) (k := k) (c := c) (s := s) hl hn l1 l2
  refine ⟨δ', ?_, g2⟩
  have hm : mulF (.int p) (.int (c * c + 1)) = some (.d (.int (p * (c * c + 1)))) := mulF_r (by omega) (by omega)
  generalize p * (c * c + 1) = n at *
  simp (disch := walk_at "dd") [b_law_c2, hc, pl, hm, s1, n1, n2, str_rep, al, g1]
theorem law_c1 {ns : List Int} {k c : Int} {s : Option Int × Option Int} (hl : ns.length ≤ 63) (c0 : 0 ≤ c) (c1 : c < 2147483587) (hs : ∀ a b, s.1 = some a → s.2 = some b → a ≤ b)
    (h1 : ∀ i, s.1 = some i → i.natAbs < 10 ^ 60) (h2 : ∀ i, s.2 = some i → i.natAbs < 10 ^ 60) :
    ∃ δ', (b_law_c1 Z).f [.d (scrD ns), .d (.int k), .d (.int c), .d (dS s), .un, .un, .un] = .nx δ' ∧ wpF lawW δ' = lawI ns := by
  have g := spanS_good h1 h2
  have e1 := endS_good h1
  have e2 := endS_good h2
  have t1 := F_span_text_v (Z := Z) (fun i e => log_lt (h1 i e)) (fun i e => log_lt (h2 i e)) (by omega) (by omega)
  have t2 := F_l_text_v (Z := Z) (fun i e => log_lt (h1 i e)) (fun i e => log_lt (h2 i e)) (by omega) (by omega)
  have t3 := F_span_by_v (Z := Z) (l := spanS s) (by omega)
  rw [spanOf_spanS hs] at t3
  have al := F_l_alike_v (Z := Z) (plD_dO (some s))
  obtain ⟨δ', g1, g2⟩ := law_c2 (Z := Z) (ns := ns) (k := k) (c := c) (s := s) hl c0 c1 g.1 g.2
  refine ⟨δ', ?_, g2⟩
  generalize spanS s = l at *
  simp only [dO] at t3 al
  generalize hx : dS s = x at *
  simp (disch := walk_at "dd") [b_law_c1, t1, t2, t3, al, g1]
theorem law_turn {ns : List Int} {k : Nat} (hl : ns.length ≤ 63) : ∃ δ', (b_law_l1 Z).f [.d (scrD ns), .d (.int ((0 : Int) + k)), .un, .un, .un, .un, .un] = .nx δ' ∧ wpF lawW δ' = lawI ns := by
  have hz : (0 : Int) + k = k := by omega
  rw [hz]
  have hc := F_l_cell_v (Z := Z) (k := 3 * (k : Int)) hl
  have hc1 := F_l_cell_v (Z := Z) (k := 3 * (k : Int) + 1) hl
  have hcp := cell_pos ns (3 * (k : Int))
  have pl := F_l_place_v (Z := Z) hcp.1 hcp.2
  have pb := place_bd (cell ns (3 * (k : Int)))
  have sp := F_l_span_v (Z := Z) (c := cell ns (3 * (k : Int) + 1)) (base := place (cell ns (3 * (k : Int))))
  have sle := spanF_le (cell ns (3 * (k : Int) + 1)) (place (cell ns (3 * (k : Int))))
  have sbd : ∀ i, ((spanF (cell ns (3 * (k : Int) + 1)) (place (cell ns (3 * (k : Int))))).1 = some i → i.natAbs < 10 ^ 31) ∧ ((spanF (cell ns (3 * (k : Int) + 1)) (place (cell ns (3 * (k : Int))))).2 = some i → i.natAbs < 10 ^ 31) := by
    intro i
    generalize place (cell ns (3 * (k : Int))) = p at *
    generalize cell ns (3 * (k : Int) + 1) = d at *
    unfold spanF
    have hx : 0 ≤ (([0, 1, d / 1000 % 4, d / 1000 % 30] : List Int).getD (d / 976 % 4).toNat 0) ∧ (([0, 1, d / 1000 % 4, d / 1000 % 30] : List Int).getD (d / 976 % 4).toNat 0) < 30 := by
      have : d / 976 % 4 = 0 ∨ d / 976 % 4 = 1 ∨ d / 976 % 4 = 2 ∨ d / 976 % 4 = 3 := by omega
      rcases this with e | e | e | e <;> rw [e] <;> simp <;> omega
    generalize ([0, 1, d / 1000 % 4, d / 1000 % 30] : List Int).getD (d / 976 % 4).toNat 0 = g at *
    by_cases k1 : d % 16 = 0
    · simp [k1]; try omega
    · by_cases k2 : d % 16 = 1
      · simp [k2]; try omega
      · by_cases k3 : d % 160 = 2
        · simp [k1, k2, k3]
        · simp [k1, k2, k3]; try omega
  generalize spanF (cell ns (3 * (k : Int) + 1)) (place (cell ns (3 * (k : Int)))) = s at *
  generalize cell ns (3 * (k : Int) + 1) = d at *
  generalize cell ns (3 * (k : Int)) = c at *
  generalize place c = p at *
  obtain ⟨a, b⟩ := s
  simp only at sle sbd
  have b30 : (10 : Nat) ^ 31 < 10 ^ 60 := by decide
  by_cases q : c / 6 % 4 = 1
  · cases b with
    | none =>
      obtain ⟨δ', g1, g2⟩ := law_c1 (Z := Z) (ns := ns) (k := k) (c := c) (s := (a, none)) hl hcp.1 hcp.2 (fun _ _ _ z => by cases z) (fun i e => by have := (sbd i).1 e; omega) (fun i e => by cases e)
      refine ⟨δ', ?_, g2⟩
      simp (disch := walk_at "dd") [b_law_l1, hc, hc1, pl, sp, q, atI0, atI1] at g1 ⊢
      exact g1
    | some j =>
      have e40 : (10 : Int) ^ 40 = 10000000000000000000000000000000000000000 := by decide
      have hj := (sbd j).2 rfl
      obtain ⟨δ', g1, g2⟩ := law_c1 (Z := Z) (ns := ns) (k := k) (c := c) (s := (a, some (j + 10000000000000000000000000000000000000000 + c))) hl hcp.1 hcp.2 (fun x y h1 h2 => by cases h2; have := (sle x j h1 rfl).1; have := hcp.1; omega) (fun i e => by have := (sbd i).1 e; omega) (fun i e => by cases e; have := hcp.1; have := hcp.2; omega)
      refine ⟨δ', ?_, g2⟩
      simp (disch := walk_at "dd") [b_law_l1, hc, hc1, pl, sp, q, atI0, atI1] at g1 ⊢
      exact g1
  · obtain ⟨δ', g1, g2⟩ := law_c1 (Z := Z) (ns := ns) (k := k) (c := c) (s := (a, b)) hl hcp.1 hcp.2 (fun x y h1 h2 => (sle x y h1 h2).1) (fun i e => by have := (sbd i).1 e; omega) (fun i e => by have := (sbd i).2 e; omega)
    refine ⟨δ', ?_, g2⟩
    simp (disch := walk_at "dd") [b_law_l1, hc, hc1, pl, sp, q] at g1 ⊢
    exact g1
theorem law_holds (Z : Zs) (ns : List Int) (hl : ns.length ≤ 63) : F_law Z [scrD ns] = .ok (.d (.bl true)) := by
  have hlp := forF_inv (g := (SG.name 1 : SG (HY Z)).f) (body := (b_law_l1 Z).f) (vs := lawW) (ys := rg 0 (max (1 : Int) (min (ns.length : Int) 63)).toNat) (fun _ => lawI ns) (fun i y hy => by
    obtain ⟨hi, rfl⟩ := rg_get hy
    obtain ⟨δ', g1, g2⟩ := law_turn (Z := Z) (ns := ns) (k := i) hl
    exact ⟨_, δ', by simp, .inl g1, g2⟩)
  have hin : inR (max (1 : Int) (min (ns.length : Int) 63)) = true := inR_s (by omega) (by omega)
  simp [F_law_eq, b_law, hin, hlp]

end
end Far
namespace Far
open PySem L2 PyProof.Rows
def topS (i : Nat) : Stmt := PySem.Challenge.pw_farrows_k13_whole_spans_written.main.body.getD i (.Pass ⟨0, 0, 0, 0⟩)
abbrev s_number_text : Stmt := topS 2
theorem sc_number_text : FnScope N_number_text ["number"] (defScope s_number_text) := ⟨rfl, rfl, rfl, by decide +kernel, rfl, by decide +kernel, by decide +kernel⟩
abbrev s_number_by : Stmt := topS 3
theorem sc_number_by : FnScope N_number_by ["text"] (defScope s_number_by) := ⟨rfl, rfl, rfl, by decide +kernel, rfl, by decide +kernel, by decide +kernel⟩
abbrev s_end_text : Stmt := topS 4
theorem sc_end_text : FnScope N_end_text ["end"] (defScope s_end_text) := ⟨rfl, rfl, rfl, by decide +kernel, rfl, by decide +kernel, by decide +kernel⟩
abbrev s_span_text : Stmt := topS 5
theorem sc_span_text : FnScope N_span_text ["span"] (defScope s_span_text) := ⟨rfl, rfl, rfl, by decide +kernel, rfl, by decide +kernel, by decide +kernel⟩
abbrev s_span_by : Stmt := topS 6
theorem sc_span_by : FnScope N_span_by ["text"] (defScope s_span_by) := ⟨rfl, rfl, rfl, by decide +kernel, rfl, by decide +kernel, by decide +kernel⟩
abbrev s_l_cell : Stmt := topS 8
theorem sc_l_cell : FnScope N_l_cell ["_law_script", "_law_k"] (defScope s_l_cell) := ⟨rfl, rfl, rfl, by decide +kernel, rfl, by decide +kernel, by decide +kernel⟩
abbrev s_l_place : Stmt := topS 9
theorem sc_l_place : FnScope N_l_place ["_law_cell_here"] (defScope s_l_place) := ⟨rfl, rfl, rfl, by decide +kernel, rfl, by decide +kernel, by decide +kernel⟩
abbrev s_l_span : Stmt := topS 10
theorem sc_l_span : FnScope N_l_span ["_law_cell_here", "_law_base"] (defScope s_l_span) := ⟨rfl, rfl, rfl, by decide +kernel, rfl, by decide +kernel, by decide +kernel⟩
abbrev s_l_alike : Stmt := topS 11
theorem sc_l_alike : FnScope N_l_alike ["_law_found", "_law_due"] (defScope s_l_alike) := ⟨rfl, rfl, rfl, by decide +kernel, rfl, by decide +kernel, by decide +kernel⟩
abbrev s_l_number : Stmt := topS 12
theorem sc_l_number : FnScope N_l_number ["_law_text_here"] (defScope s_l_number) := ⟨rfl, rfl, rfl, by decide +kernel, rfl, by decide +kernel, by decide +kernel⟩
abbrev s_l_read : Stmt := topS 13
theorem sc_l_read : FnScope N_l_read ["_law_text_here"] (defScope s_l_read) := ⟨rfl, rfl, rfl, by decide +kernel, rfl, by decide +kernel, by decide +kernel⟩
abbrev s_l_text : Stmt := topS 14
theorem sc_l_text : FnScope N_l_text ["_law_span_here"] (defScope s_l_text) := ⟨rfl, rfl, rfl, by decide +kernel, rfl, by decide +kernel, by decide +kernel⟩
abbrev s_l_bent : Stmt := topS 15
theorem sc_l_bent : FnScope N_l_bent ["_law_text_here", "_law_cell_here"] (defScope s_l_bent) := ⟨rfl, rfl, rfl, by decide +kernel, rfl, by decide +kernel, by decide +kernel⟩
abbrev s_law : Stmt := topS 16
theorem sc_law : FnScope N_law ["_law_script"] (defScope s_law) := ⟨rfl, rfl, rfl, by decide +kernel, rfl, by decide +kernel, by decide +kernel⟩
structure Txt (K : PySem.W.Frag) (mg : Str → Option Value) (Z : Zs) where
  a_number_text : Addr
  d_number_text : FuncData
  F_number_text : Fun K "number_text" "number_text" s_number_text a_number_text d_number_text
  b_number_text : Binds K d_number_text ["number"] []
  g_number_text : mg "number_text" = some (.ref a_number_text)
  a_number_by : Addr
  d_number_by : FuncData
  F_number_by : Fun K "number_by" "number_by" s_number_by a_number_by d_number_by
  b_number_by : Binds K d_number_by ["text"] []
  g_number_by : mg "number_by" = some (.ref a_number_by)
  a_end_text : Addr
  d_end_text : FuncData
  F_end_text : Fun K "end_text" "end_text" s_end_text a_end_text d_end_text
  b_end_text : Binds K d_end_text ["end"] []
  g_end_text : mg "end_text" = some (.ref a_end_text)
  a_span_text : Addr
  d_span_text : FuncData
  F_span_text : Fun K "span_text" "span_text" s_span_text a_span_text d_span_text
  b_span_text : Binds K d_span_text ["span"] []
  g_span_text : mg "span_text" = some (.ref a_span_text)
  a_span_by : Addr
  d_span_by : FuncData
  F_span_by : Fun K "span_by" "span_by" s_span_by a_span_by d_span_by
  b_span_by : Binds K d_span_by ["text"] []
  g_span_by : mg "span_by" = some (.ref a_span_by)
  a_l_cell : Addr
  d_l_cell : FuncData
  F_l_cell : Fun K "_law_cell" "_law_cell" s_l_cell a_l_cell d_l_cell
  b_l_cell : Binds K d_l_cell ["_law_script", "_law_k"] []
  g_l_cell : mg "_law_cell" = some (.ref a_l_cell)
  a_l_place : Addr
  d_l_place : FuncData
  F_l_place : Fun K "_law_place" "_law_place" s_l_place a_l_place d_l_place
  b_l_place : Binds K d_l_place ["_law_cell_here"] []
  g_l_place : mg "_law_place" = some (.ref a_l_place)
  a_l_span : Addr
  d_l_span : FuncData
  F_l_span : Fun K "_law_span" "_law_span" s_l_span a_l_span d_l_span
  b_l_span : Binds K d_l_span ["_law_cell_here", "_law_base"] []
  g_l_span : mg "_law_span" = some (.ref a_l_span)
  a_l_alike : Addr
  d_l_alike : FuncData
  F_l_alike : Fun K "_law_alike" "_law_alike" s_l_alike a_l_alike d_l_alike
  b_l_alike : Binds K d_l_alike ["_law_found", "_law_due"] []
  g_l_alike : mg "_law_alike" = some (.ref a_l_alike)
  a_l_number : Addr
  d_l_number : FuncData
  F_l_number : Fun K "_law_number" "_law_number" s_l_number a_l_number d_l_number
  b_l_number : Binds K d_l_number ["_law_text_here"] []
  g_l_number : mg "_law_number" = some (.ref a_l_number)
  a_l_read : Addr
  d_l_read : FuncData
  F_l_read : Fun K "_law_read" "_law_read" s_l_read a_l_read d_l_read
  b_l_read : Binds K d_l_read ["_law_text_here"] []
  g_l_read : mg "_law_read" = some (.ref a_l_read)
  a_l_text : Addr
  d_l_text : FuncData
  F_l_text : Fun K "_law_text" "_law_text" s_l_text a_l_text d_l_text
  b_l_text : Binds K d_l_text ["_law_span_here"] []
  g_l_text : mg "_law_text" = some (.ref a_l_text)
  a_l_bent : Addr
  d_l_bent : FuncData
  F_l_bent : Fun K "_law_bent" "_law_bent" s_l_bent a_l_bent d_l_bent
  b_l_bent : Binds K d_l_bent ["_law_text_here", "_law_cell_here"] []
  g_l_bent : mg "_law_bent" = some (.ref a_l_bent)
  a_law : Addr
  d_law : FuncData
  F_law : Fun K "law" "law" s_law a_law d_law
  b_law : Binds K d_law ["_law_script"] []
  g_law : mg "law" = some (.ref a_law)
  n_all : mg "all" = none
  n_bool : mg "bool" = none
  n_int : mg "int" = none
  n_isinstance : mg "isinstance" = none
  n_len : mg "len" = none
  n_list : mg "list" = none
  n_max : mg "max" = none
  n_min : mg "min" = none
  n_range : mg "range" = none
  n_str : mg "str" = none
  n_tuple : mg "tuple" = none
  t_FIGURES : Tok
  g_FIGURES : mg "FIGURES" = some (.str "0123456789" t_FIGURES)
  zf : ZF K Z
section
variable {P : Program} {w : World} {K : PySem.W.Frag} {mg : Str → Option Value} {base : Heap} {Z : Zs}
theorem ok_number_text (T : Txt K mg Z) : FnOk P w K mg base CX0 1 T.a_number_text T.d_number_text ["number"] (spD K (RF (F_number_text Z))) :=
  ok_def (t := t_number_text K Z) T.F_number_text sc_number_text hl_run (fun cdv A outer s H E hr =>
    (pss_one (ps_ret (pe_callTy call_strU (by rfl) T.n_str (by decide +kernel) (pa_cons (pv 0) pa_nil))))) (fun E xs out h => (rd_number_text K Z E) ▸ sd_run (Hy := HY Z) T.zf h)
theorem ok_number_by (T : Txt K mg Z) : FnOk P w K mg base CX0 1 T.a_number_by T.d_number_by ["text"] (spD K (RF (F_number_by Z))) :=
  ok_def (t := t_number_by K Z) T.F_number_by sc_number_by hl_run (fun cdv A outer s H E hr =>
    (pss_cons (ps_set (i := 1) sc_number_by.nd rfl (by first | exact Or.inl rfl | exact Or.inr rfl) (pe_ifExp (pt_truth (pe_sw (pv 0) pe_str) (by intro _; rfl)) (pe_slice sl_U (pv 0) (po_some pe_int) po_none) (pv 0)))
    (pss_cons (ps_if (PW.pt (pw_or (pt_cmpR (op_eqU hr.units) (pv 1) pe_str (nomark _)) (pw_or1 (pt_not (pt_truth (pe_callB (cr_all rfl) (by rfl) T.n_all (by decide +kernel) (pa_cons (pe_lc (own := [("sign", 2)]) (by rfl) sc_number_by.nd (pi_str (pv 1)) (blkOk_by (own := [("sign", 2)]) (N := N_number_by) (sc := defScope s_number_by) (by decide +kernel)) (fun _ _ _ _ _ => (pg_name (i := 2) sc_number_by.nd rfl (by first | exact Or.inl rfl | exact Or.inr rfl))) (fun _ _ _ _ _ => pts_nil) (fun _ _ _ _ _ => (pe_cmpR op_inU (pv 2) (pe_glob (v := .str "0123456789") (by rfl) T.g_FIGURES ⟨_, rfl⟩) (by rfl)))) pa_nil)) (by intro _; rfl))))))
    (pss_one (ps_ret pe_non)) pss_nil)
    (pss_cons (ps_if (PW.pt (pw_and (pt_cmpR (op_eqU hr.units) (pe_ix ix_seq (pv 1) pe_int (fun _ _ => rfl)) pe_str (nomark _)) (pw_and1 (pt_cmpR (op_neU hr.units) (pv 0) pe_str (nomark _)))))
    (pss_one (ps_ret pe_non)) pss_nil)
    (pss_one (ps_ret (pe_ifExp (pt_truth (pe_sw (pv 0) pe_str) (by intro _; rfl)) (pe_un un_neg (pe_callTy call_intU (by rfl) T.n_int (by decide +kernel) (pa_cons (pv 1) pa_nil))) (pe_callTy call_intU (by rfl) T.n_int (by decide +kernel) (pa_cons (pv 1) pa_nil))))))))) (fun E xs out h => (rd_number_by K Z E) ▸ sd_run (Hy := HY Z) T.zf h)
theorem ok_end_text (T : Txt K mg Z) : FnOk P w K mg base CX0 2 T.a_end_text T.d_end_text ["end"] (spD K (RF (F_end_text Z))) :=
  ok_def (t := t_end_text K Z) T.F_end_text sc_end_text hl_run (fun cdv A outer s H E hr =>
    (pss_cons (ps_if (pt_cmpR op_isN1 (pv 0) pe_non (nomark _))
    (pss_one (ps_ret pe_str)) pss_nil)
    (pss_one (ps_ret (pe_call (ok_number_text T) (hr.mono (by omega)) (by rfl) T.g_number_text T.F_number_text.kp T.b_number_text .nil pass0 (pa_cons (pv 0) pa_nil)))))) (fun E xs out h => (rd_end_text K Z E) ▸ sd_run (Hy := HY Z) T.zf h)
theorem ok_span_text (T : Txt K mg Z) : FnOk P w K mg base CX0 3 T.a_span_text T.d_span_text ["span"] (spD K (RF (F_span_text Z))) :=
  ok_def (t := t_span_text K Z) T.F_span_text sc_span_text hl_run (fun cdv A outer s H E hr =>
    (pss_cons (ps_asg (pv 0) (pg_seq rfl (pgs_cons (pg_name (i := 1) sc_span_text.nd rfl (by first | exact Or.inl rfl | exact Or.inr rfl)) (pgs_cons (pg_name (i := 2) sc_span_text.nd rfl (by first | exact Or.inl rfl | exact Or.inr rfl)) pgs_nil))))
    (pss_cons (ps_if (PW.pt (pw_and (pt_cmpR op_notN1 (pv 1) pe_non (nomark _)) (pw_and1 (pt_cmpR (op_eqU hr.units) (pv 1) (pv 2) (nomark _)))))
    (pss_one (ps_ret (pe_call (ok_number_text T) (hr.mono (by omega)) (by rfl) T.g_number_text T.F_number_text.kp T.b_number_text .nil pass0 (pa_cons (pv 1) pa_nil)))) pss_nil)
    (pss_one (ps_ret (pe_op op_addU (pe_op op_addU (pe_call (ok_end_text T) (hr.mono (by omega)) (by rfl) T.g_end_text T.F_end_text.kp T.b_end_text .nil pass0 (pa_cons (pv 1) pa_nil)) pe_str) (pe_call (ok_end_text T) (hr.mono (by omega)) (by rfl) T.g_end_text T.F_end_text.kp T.b_end_text .nil pass0 (pa_cons (pv 2) pa_nil)))))))) (fun E xs out h => (rd_span_text K Z E) ▸ sd_run (Hy := HY Z) T.zf h)
theorem ok_span_by (T : Txt K mg Z) : FnOk P w K mg base CX0 2 T.a_span_by T.d_span_by ["text"] (spD K (RF (F_span_by Z))) :=
  ok_def (t := t_span_by K Z) T.F_span_by sc_span_by hl_run (fun cdv A outer s H E hr =>
    (pss_cons (ps_asg (pe_partT (pv 0) pe_str) (pg_seq rfl (pgs_cons (pg_name (i := 1) sc_span_by.nd rfl (by first | exact Or.inl rfl | exact Or.inr rfl)) (pgs_cons (pg_name (i := 2) sc_span_by.nd rfl (by first | exact Or.inl rfl | exact Or.inr rfl)) (pgs_cons (pg_name (i := 3) sc_span_by.nd rfl (by first | exact Or.inl rfl | exact Or.inr rfl)) pgs_nil)))))
    (pss_cons (ps_set (i := 4) sc_span_by.nd rfl (by first | exact Or.inl rfl | exact Or.inr rfl) (pe_call (ok_number_by T) (hr.mono (by omega)) (by rfl) T.g_number_by T.F_number_by.kp T.b_number_by .nil pass0 (pa_cons (pv 1) pa_nil)))
    (pss_cons (ps_set (i := 5) sc_span_by.nd rfl (by first | exact Or.inl rfl | exact Or.inr rfl) (pe_call (ok_number_by T) (hr.mono (by omega)) (by rfl) T.g_number_by T.F_number_by.kp T.b_number_by .nil pass0 (pa_cons (pv 3) pa_nil)))
    (pss_cons (ps_if (pt_cmpR (op_eqU hr.units) (pv 2) pe_str (nomark _))
    (pss_one (ps_ret (pe_ifExp (pt_cmpR op_isN1 (pv 4) pe_non (nomark _)) pe_non (pe_tupP (pa_cons (pv 4) (pa_cons (pv 4) pa_nil)))))) pss_nil)
    (pss_cons (ps_if (PW.pt (pw_or (PW.pt (pw_and (pt_cmpR op_isN1 (pv 4) pe_non (nomark _)) (pw_and1 (pt_cmpR (op_neU hr.units) (pv 1) pe_str (nomark _))))) (pw_or1 (PW.pt (pw_and (pt_cmpR op_isN1 (pv 5) pe_non (nomark _)) (pw_and1 (pt_cmpR (op_neU hr.units) (pv 3) pe_str (nomark _))))))))
    (pss_one (ps_ret pe_non)) pss_nil)
    (pss_cons (ps_if (PW.pt (pw_and (pt_cmpR op_notN1 (pv 4) pe_non (nomark _)) (pw_and (pt_cmpR op_notN1 (pv 5) pe_non (nomark _)) (pw_and1 (pt_cmpR op_ge (pv 4) (pv 5) (nomark _))))))
    (pss_one (ps_ret pe_non)) pss_nil)
    (pss_one (ps_ret (pe_tupP (pa_cons (pv 4) (pa_cons (pv 5) pa_nil)))))))))))) (fun E xs out h => (rd_span_by K Z E) ▸ sd_run (Hy := HY Z) T.zf h)
theorem ok_l_cell (T : Txt K mg Z) : FnOk P w K mg base CX0 1 T.a_l_cell T.d_l_cell ["_law_script", "_law_k"] (spD K (RF (F_l_cell Z))) :=
  ok_def (t := t_l_cell K Z) T.F_l_cell sc_l_cell hl_run (fun cdv A outer s H E hr =>
    (pss_cons (ps_set (i := 2) sc_l_cell.nd rfl (by first | exact Or.inl rfl | exact Or.inr rfl) (pe_op op_addU (pe_op op_mulU pe_int (pv 1)) pe_int))
    (pss_cons (ps_if (pt_cmpR (op_neU hr.units) (pv 0) (pe_lst pa_nil) (nomark _))
    (pss_cons (ps_set (i := 2) sc_l_cell.nd rfl (by first | exact Or.inl rfl | exact Or.inr rfl) (pe_op op_mulU (pe_ix ix_seq (pv 0) (pe_op op_mod (pv 1) (pe_callB call_len (by rfl) T.n_len (by decide +kernel) (pa_cons (pv 0) pa_nil))) (fun _ _ => rfl)) pe_int))
    (pss_one (ps_set (i := 2) sc_l_cell.nd rfl (by first | exact Or.inl rfl | exact Or.inr rfl) (pe_op op_addU (pe_op op_addU (pv 2) (pe_op op_mulU pe_int (pv 1))) (pe_op op_mulU (pe_op op_fdivW (pv 1) (pe_callB call_len (by rfl) T.n_len (by decide +kernel) (pa_cons (pv 0) pa_nil))) pe_int))))) pss_nil)
    (pss_cons (ps_set (i := 3) sc_l_cell.nd rfl (by first | exact Or.inl rfl | exact Or.inr rfl) (pe_op op_mod (pv 2) pe_int))
    (pss_cons (ps_set (i := 3) sc_l_cell.nd rfl (by first | exact Or.inl rfl | exact Or.inr rfl) (pe_op op_mod (pe_op op_mulU (pv 3) (pv 3)) pe_int))
    (pss_one (ps_ret (pe_op op_mod (pe_op op_addU (pe_op op_addU (pe_op op_mulU (pv 3) (pv 3)) (pe_op op_mulU pe_int (pv 3))) (pv 1)) pe_int)))))))) (fun E xs out h => (rd_l_cell K Z E) ▸ sd_run (Hy := HY Z) T.zf h)
theorem ok_l_place (T : Txt K mg Z) : FnOk P w K mg base CX0 1 T.a_l_place T.d_l_place ["_law_cell_here"] (spD K (RF (F_l_place Z))) :=
  ok_def (t := t_l_place K Z) T.F_l_place sc_l_place hl_run (fun cdv A outer s H E hr =>
    (pss_cons (ps_set (i := 1) sc_l_place.nd rfl (by first | exact Or.inl rfl | exact Or.inr rfl) pe_int)
    (pss_cons (ps_for PassesOwn.never rfl (pi_rangeW1 rfl T.n_range (pa_cons pe_int pa_nil)) (pg_name (i := 2) sc_l_place.nd rfl (by first | exact Or.inl rfl | exact Or.inr rfl))
    (pss_one (ps_set (i := 1) sc_l_place.nd rfl (by first | exact Or.inl rfl | exact Or.inr rfl) (pe_op op_mod (pe_op op_mulU (pv 1) (pe_op op_addU (pv 0) (pv 2))) (pe_op op_pow pe_int pe_int)))))
    (pss_one (ps_ret (pe_ix ix_seq (pe_lst (pa_cons (pe_op op_sub (pe_op op_mod (pe_op op_fdivW (pv 0) pe_int) pe_int) pe_int) (pa_cons (pe_op op_sub (pe_op op_mod (pe_op op_fdivW (pv 0) pe_int) pe_int) pe_int) (pa_cons (pe_op op_sub (pe_op op_mod (pe_op op_fdivW (pv 0) pe_int) pe_int) pe_int) (pa_cons (pv 1) (pa_cons (pe_un un_neg (pv 1)) (pa_cons pe_int pa_nil))))))) (pe_op op_mod (pv 0) pe_int) (fun _ _ => rfl))))))) (fun E xs out h => (rd_l_place K Z E) ▸ sd_run (Hy := HY Z) T.zf h)
theorem ok_l_span (T : Txt K mg Z) : FnOk P w K mg base CX0 1 T.a_l_span T.d_l_span ["_law_cell_here", "_law_base"] (spD K (RF (F_l_span Z))) :=
  ok_def (t := t_l_span K Z) T.F_l_span sc_l_span hl_run (fun cdv A outer s H E hr =>
    (pss_cons (ps_set (i := 2) sc_l_span.nd rfl (by first | exact Or.inl rfl | exact Or.inr rfl) (pe_op op_sub (pe_op op_addU (pv 1) (pe_op op_mod (pe_op op_fdivW (pv 0) pe_int) pe_int)) pe_int))
    (pss_cons (ps_set (i := 3) sc_l_span.nd rfl (by first | exact Or.inl rfl | exact Or.inr rfl) (pe_op op_addU (pv 2) (pe_ix ix_seq (pe_lst (pa_cons pe_int (pa_cons pe_int (pa_cons (pe_op op_mod (pe_op op_fdivW (pv 0) pe_int) pe_int) (pa_cons (pe_op op_mod (pe_op op_fdivW (pv 0) pe_int) pe_int) pa_nil))))) (pe_op op_mod (pe_op op_fdivW (pv 0) pe_int) pe_int) (fun _ _ => rfl))))
    (pss_cons (ps_if (pt_cmpR (op_eqU hr.units) (pe_op op_mod (pv 0) pe_int) pe_int (nomark _))
    (pss_one (ps_ret (pe_tupP (pa_cons pe_non (pa_cons (pv 3) pa_nil))))) pss_nil)
    (pss_cons (ps_if (pt_cmpR (op_eqU hr.units) (pe_op op_mod (pv 0) pe_int) pe_int (nomark _))
    (pss_one (ps_ret (pe_tupP (pa_cons (pv 2) (pa_cons pe_non pa_nil))))) pss_nil)
    (pss_cons (ps_if (pt_cmpR (op_eqU hr.units) (pe_op op_mod (pv 0) pe_int) pe_int (nomark _))
    (pss_one (ps_ret (pe_tupP (pa_cons pe_non (pa_cons pe_non pa_nil))))) pss_nil)
    (pss_one (ps_ret (pe_tupP (pa_cons (pv 2) (pa_cons (pv 3) pa_nil))))))))))) (fun E xs out h => (rd_l_span K Z E) ▸ sd_run (Hy := HY Z) T.zf h)
theorem okr_l_alike (T : Txt K mg Z) (F1 F2 : List D → M S) (n : Nat) (hF : F1 = runF (b_l_alike Z F2) 3 2) (FR : FnOk P w K mg base CX0 (n + 0) T.a_l_alike T.d_l_alike ["_law_found", "_law_due"] (spD K (RF F2))) : FnOk P w K mg base CX0 (n + 1) T.a_l_alike T.d_l_alike ["_law_found", "_law_due"] (spD K (RF F1)) := by
  subst hF
  exact ok_def (t := t_l_alike K Z F2) T.F_l_alike sc_l_alike hl_run (fun cdv A outer s H E hr =>
    (pss_cons (ps_if (pt_truth (pe_callB call_isU (by rfl) T.n_isinstance (by decide +kernel) (pa_cons (pv 1) (pa_cons (pe_tupP (pa_cons (pe_bltn (v := .ty "list") (by rfl) T.n_list (by decide +kernel) rfl) (pa_cons (pe_bltn (v := .ty "tuple") (by rfl) T.n_tuple (by decide +kernel) rfl) pa_nil))) pa_nil))) (by intro _; rfl))
    (pss_cons (ps_if (PW.pt (pw_or (pt_cmpR (op_neU hr.units) (pe_callB call_isU (by rfl) T.n_isinstance (by decide +kernel) (pa_cons (pv 0) (pa_cons (pe_bltn (v := .ty "tuple") (by rfl) T.n_tuple (by decide +kernel) rfl) pa_nil))) (pe_callB call_isU (by rfl) T.n_isinstance (by decide +kernel) (pa_cons (pv 1) (pa_cons (pe_bltn (v := .ty "tuple") (by rfl) T.n_tuple (by decide +kernel) rfl) pa_nil))) (nomark _)) (pw_or1 (pt_not (pt_truth (pe_callB call_isU (by rfl) T.n_isinstance (by decide +kernel) (pa_cons (pv 0) (pa_cons (pe_tupP (pa_cons (pe_bltn (v := .ty "list") (by rfl) T.n_list (by decide +kernel) rfl) (pa_cons (pe_bltn (v := .ty "tuple") (by rfl) T.n_tuple (by decide +kernel) rfl) pa_nil))) pa_nil))) (by intro _; rfl))))))
    (pss_one (ps_ret pe_bl)) pss_nil)
    (pss_cons (ps_if (pt_cmpR (op_neU hr.units) (pe_callB call_len (by rfl) T.n_len (by decide +kernel) (pa_cons (pv 0) pa_nil)) (pe_callB call_len (by rfl) T.n_len (by decide +kernel) (pa_cons (pv 1) pa_nil)) (nomark _))
    (pss_one (ps_ret pe_bl)) pss_nil)
    (pss_one (ps_ret (pe_callB (cr_all rfl) (by rfl) T.n_all (by decide +kernel) (pa_cons (pe_lc (own := [("_law_k", 2)]) (by rfl) sc_l_alike.nd (pi_rangeW1 rfl T.n_range (pa_cons (pe_callB call_len (by rfl) T.n_len (by decide +kernel) (pa_cons (pv 1) pa_nil)) pa_nil)) (blkOk_by (own := [("_law_k", 2)]) (N := N_l_alike) (sc := defScope s_l_alike) (by decide +kernel)) (fun _ _ _ _ _ => (pg_name (i := 2) sc_l_alike.nd rfl (by first | exact Or.inl rfl | exact Or.inr rfl))) (fun _ _ _ _ _ => pts_nil) (fun _ _ _ _ _ => (pe_call FR (hr.mono (by omega)) (by rfl) T.g_l_alike T.F_l_alike.kp T.b_l_alike .nil pass0 (pa_cons (pe_ix ix_seq (pv 0) (pv 2) (fun _ _ => rfl)) (pa_cons (pe_ix ix_seq (pv 1) (pv 2) (fun _ _ => rfl)) pa_nil))))) pa_nil)))))) pss_nil)
    (pss_cons (ps_if (PW.pt (pw_or (pt_cmpR (op_neU hr.units) (pe_callB call_isU (by rfl) T.n_isinstance (by decide +kernel) (pa_cons (pv 0) (pa_cons (pe_bltn (v := .ty "bool") (by rfl) T.n_bool (by decide +kernel) rfl) pa_nil))) (pe_callB call_isU (by rfl) T.n_isinstance (by decide +kernel) (pa_cons (pv 1) (pa_cons (pe_bltn (v := .ty "bool") (by rfl) T.n_bool (by decide +kernel) rfl) pa_nil))) (nomark _)) (pw_or1 (pt_cmpR (op_neU hr.units) (pe_cmpR op_isN1 (pv 0) pe_non (nomark _)) (pe_cmpR op_isN1 (pv 1) pe_non (nomark _)) (nomark _)))))
    (pss_one (ps_ret pe_bl)) pss_nil)
    (pss_one (ps_ret (pe_cmpR (op_eqU hr.units) (pv 0) (pv 1) (nomark _))))))) (fun E xs out h => (rd_l_alike K Z E F2) ▸ sd_run (Hy := HY Z) T.zf h)
theorem okn_l_alike (T : Txt K mg Z) : ∀ n : Nat, FnOk P w K mg base CX0 (n + 1) T.a_l_alike T.d_l_alike ["_law_found", "_law_due"] (spD K (RF (Fn_l_alike Z n)))
  | 0 => okr_l_alike T _ _ 0 rfl fnok_no
  | n + 1 => okr_l_alike T _ _ (n + 1) rfl ((okn_l_alike T n).mono (by omega))
theorem ok_l_alike (T : Txt K mg Z) : FnOk P w K mg base CX0 3 T.a_l_alike T.d_l_alike ["_law_found", "_law_due"] (spD K (RF (F_l_alike Z))) := okn_l_alike T 2
theorem ok_l_number (T : Txt K mg Z) : FnOk P w K mg base CX0 1 T.a_l_number T.d_l_number ["_law_text_here"] (spD K (RF (F_l_number Z))) :=
  ok_def (t := t_l_number K Z) T.F_l_number sc_l_number hl_run (fun cdv A outer s H E hr =>
    (pss_cons (ps_set (i := 1) sc_l_number.nd rfl (by first | exact Or.inl rfl | exact Or.inr rfl) (pv 0))
    (pss_cons (ps_if (pt_cmpR (op_eqU hr.units) (pe_slice sl_U (pv 0) po_none (po_some pe_int)) pe_str (nomark _))
    (pss_one (ps_set (i := 1) sc_l_number.nd rfl (by first | exact Or.inl rfl | exact Or.inr rfl) (pe_slice sl_U (pv 0) (po_some pe_int) po_none))) pss_nil)
    (pss_cons (ps_if (PW.pt (pw_or (pt_cmpR (op_eqU hr.units) (pv 1) pe_str (nomark _)) (pw_or1 (pt_cmpR (op_neU hr.units) (pe_lc (own := [("_law_sign", 2)]) (by rfl) sc_l_number.nd (pi_str (pv 1)) (blkOk_by (own := [("_law_sign", 2)]) (N := N_l_number) (sc := defScope s_l_number) (by decide +kernel)) (fun _ _ _ _ _ => (pg_name (i := 2) sc_l_number.nd rfl (by first | exact Or.inl rfl | exact Or.inr rfl))) (fun _ _ _ _ _ => (pts_one (pt_cmpR op_notInU (pv 2) pe_str (by rfl)))) (fun _ _ _ _ _ => (pv 2))) (pe_lst pa_nil) (nomark _)))))
    (pss_one (ps_ret pe_non)) pss_nil)
    (pss_cons (ps_if (PW.pt (pw_and (pt_cmpR (op_eqU hr.units) (pe_ix ix_seq (pv 1) pe_int (fun _ _ => rfl)) pe_str (nomark _)) (pw_and1 (pt_cmpR (op_neU hr.units) (pv 0) pe_str (nomark _)))))
    (pss_one (ps_ret pe_non)) pss_nil)
    (pss_cons (ps_set (i := 3) sc_l_number.nd rfl (by first | exact Or.inl rfl | exact Or.inr rfl) pe_int)
    (pss_cons (ps_for PassesOwn.never rfl (pi_str (pv 1)) (pg_name (i := 2) sc_l_number.nd rfl (by first | exact Or.inl rfl | exact Or.inr rfl))
    (pss_one (ps_set (i := 3) sc_l_number.nd rfl (by first | exact Or.inl rfl | exact Or.inr rfl) (pe_op op_addU (pe_op op_mulU pe_int (pv 3)) (pe_sidx pe_str (pv 2))))))
    (pss_one (ps_ret (pe_ix ix_seq (pe_lst (pa_cons (pv 3) (pa_cons (pe_un un_neg (pv 3)) pa_nil))) (pe_callTy call_intU (by rfl) T.n_int (by decide +kernel) (pa_cons (pe_cmpR (op_eqU hr.units) (pe_slice sl_U (pv 0) po_none (po_some pe_int)) pe_str (nomark _)) pa_nil)) (fun _ _ => rfl))))))))))) (fun E xs out h => (rd_l_number K Z E) ▸ sd_run (Hy := HY Z) T.zf h)
theorem ok_l_read (T : Txt K mg Z) : FnOk P w K mg base CX0 2 T.a_l_read T.d_l_read ["_law_text_here"] (spD K (RF (F_l_read Z))) :=
  ok_def (t := t_l_read K Z) T.F_l_read sc_l_read hl_run (fun cdv A outer s H E hr =>
    (pss_cons (ps_set (i := 1) sc_l_read.nd rfl (by first | exact Or.inl rfl | exact Or.inr rfl) (pe_call (ok_l_number T) (hr.mono (by omega)) (by rfl) T.g_l_number T.F_l_number.kp T.b_l_number .nil pass0 (pa_cons (pv 0) pa_nil)))
    (pss_cons (ps_if (pt_cmpR op_notN1 (pv 1) pe_non (nomark _))
    (pss_one (ps_ret (pe_tupP (pa_cons (pv 1) (pa_cons (pv 1) pa_nil))))) pss_nil)
    (pss_cons (ps_for PassesOwn.never rfl (pi_rangeW1 rfl T.n_range (pa_cons (pe_op op_sub (pe_callB call_len (by rfl) T.n_len (by decide +kernel) (pa_cons (pv 0) pa_nil)) pe_int) pa_nil)) (pg_name (i := 2) sc_l_read.nd rfl (by first | exact Or.inl rfl | exact Or.inr rfl))
    (pss_cons (ps_set (i := 3) sc_l_read.nd rfl (by first | exact Or.inl rfl | exact Or.inr rfl) (pe_call (ok_l_number T) (hr.mono (by omega)) (by rfl) T.g_l_number T.F_l_number.kp T.b_l_number .nil pass0 (pa_cons (pe_slice sl_U (pv 0) po_none (po_some (pv 2))) pa_nil)))
    (pss_cons (ps_set (i := 4) sc_l_read.nd rfl (by first | exact Or.inl rfl | exact Or.inr rfl) (pe_call (ok_l_number T) (hr.mono (by omega)) (by rfl) T.g_l_number T.F_l_number.kp T.b_l_number .nil pass0 (pa_cons (pe_slice sl_U (pv 0) (po_some (pe_op op_addU (pv 2) pe_int)) po_none) pa_nil)))
    (pss_cons (ps_set (i := 5) sc_l_read.nd rfl (by first | exact Or.inl rfl | exact Or.inr rfl) (pe_andT (pe_cmpR (op_eqU hr.units) (pe_slice sl_U (pv 0) (po_some (pv 2)) (po_some (pe_op op_addU (pv 2) pe_int))) pe_str (nomark _)) (pe_one (pe_orT (pe_cmpR op_notN1 (pv 3) pe_non (nomark _)) (pe_one (pe_cmpR (op_eqU hr.units) (pv 2) pe_int (nomark _)))))))
    (pss_one (ps_if (PW.pt (pw_and (pt_truth (pv 5) (by intro _; rfl)) (pw_and1 (PW.pt (pw_or (pt_cmpR op_notN1 (pv 4) pe_non (nomark _)) (pw_or1 (pt_cmpR (op_eqU hr.units) (pe_slice sl_U (pv 0) (po_some (pe_op op_addU (pv 2) pe_int)) po_none) pe_str (nomark _))))))))
    (pss_one (ps_if (PW.pt (pw_or (pt_cmpR op_isN1 (pv 3) pe_non (nomark _)) (pw_or (pt_cmpR op_isN1 (pv 4) pe_non (nomark _)) (pw_or1 (pt_cmpR op_lt (pv 3) (pv 4) (nomark _))))))
    (pss_one (ps_ret (pe_tupP (pa_cons (pv 3) (pa_cons (pv 4) pa_nil))))) pss_nil)) pss_nil))))))
    (pss_one (ps_ret pe_non)))))) (fun E xs out h => (rd_l_read K Z E) ▸ sd_run (Hy := HY Z) T.zf h)
theorem ok_l_text (T : Txt K mg Z) : FnOk P w K mg base CX0 1 T.a_l_text T.d_l_text ["_law_span_here"] (spD K (RF (F_l_text Z))) :=
  ok_def (t := t_l_text K Z) T.F_l_text sc_l_text hl_run (fun cdv A outer s H E hr =>
    (pss_cons (ps_setLc (i := 1) (own := [("_law_end", 2)]) (by rfl) sc_l_text.nd rfl rfl (sw_true rfl rfl rfl (by decide +kernel)) (pi_seq (pv 0)) (blkOk_by (own := [("_law_end", 2)]) (N := N_l_text) (sc := defScope s_l_text) (by decide +kernel)) (fun _ _ _ _ _ => (pg_name (i := 2) sc_l_text.nd rfl (by first | exact Or.inl rfl | exact Or.inr rfl))) (fun _ _ _ _ _ => pts_nil) (fun _ _ _ _ _ => (pe_ifExp (pt_cmpR op_isN1 (pv 2) pe_non (nomark _)) pe_str (pe_callTy call_strU (by rfl) T.n_str (by decide +kernel) (pa_cons (pv 2) pa_nil)))))
    (pss_cons (ps_if (PW.pt (pw_and (pt_cmpR (op_eqU hr.units) (pe_ix ix_seq (pv 1) pe_int (fun _ _ => rfl)) (pe_ix ix_seq (pv 1) pe_int (fun _ _ => rfl)) (nomark _)) (pw_and1 (pt_cmpR (op_neU hr.units) (pe_ix ix_seq (pv 1) pe_int (fun _ _ => rfl)) pe_str (nomark _)))))
    (pss_one (ps_ret (pe_ix ix_seq (pv 1) pe_int (fun _ _ => rfl)))) pss_nil)
    (pss_one (ps_ret (pe_op op_addU (pe_op op_addU (pe_ix ix_seq (pv 1) pe_int (fun _ _ => rfl)) pe_str) (pe_ix ix_seq (pv 1) pe_int (fun _ _ => rfl)))))))) (fun E xs out h => (rd_l_text K Z E) ▸ sd_run (Hy := HY Z) T.zf h)
theorem ok_l_bent (T : Txt K mg Z) : FnOk P w K mg base CX0 1 T.a_l_bent T.d_l_bent ["_law_text_here", "_law_cell_here"] (spD K (RF (F_l_bent Z))) :=
  ok_def (t := t_l_bent K Z) T.F_l_bent sc_l_bent hl_run (fun cdv A outer s H E hr =>
    (pss_cons (ps_set (i := 2) sc_l_bent.nd rfl (by first | exact Or.inl rfl | exact Or.inr rfl) (pe_lst (pa_cons pe_str (pa_cons pe_str (pa_cons pe_str (pa_cons pe_str (pa_cons pe_str (pa_cons pe_str (pa_cons pe_str (pa_cons pe_str (pa_cons pe_str (pa_cons pe_str (pa_cons pe_str (pa_cons pe_str (pa_cons pe_str (pa_cons pe_str (pa_cons pe_str (pa_cons pe_str pa_nil))))))))))))))))))
    (pss_cons (ps_set (i := 2) sc_l_bent.nd rfl (by first | exact Or.inl rfl | exact Or.inr rfl) (pe_op op_addU (pv 2) (pe_lst (pa_cons pe_str (pa_cons pe_str (pa_cons pe_str (pa_cons pe_str (pa_cons pe_str (pa_cons pe_str (pa_cons pe_str (pa_cons pe_str (pa_cons pe_str (pa_cons pe_str (pa_cons pe_str (pa_cons pe_str (pa_cons pe_str pa_nil))))))))))))))))
    (pss_cons (ps_set (i := 2) sc_l_bent.nd rfl (by first | exact Or.inl rfl | exact Or.inr rfl) (pe_op op_addU (pv 2) (pe_lst (pa_cons pe_str (pa_cons pe_str pa_nil)))))
    (pss_cons (ps_set (i := 3) sc_l_bent.nd rfl (by first | exact Or.inl rfl | exact Or.inr rfl) (pe_op op_mod (pe_op op_fdivW (pv 1) pe_int) (pe_op op_addU (pe_callB call_len (by rfl) T.n_len (by decide +kernel) (pa_cons (pv 0) pa_nil)) pe_int)))
    (pss_cons (ps_set (i := 4) sc_l_bent.nd rfl (by first | exact Or.inl rfl | exact Or.inr rfl) (pe_ix ix_seq pe_str (pe_op op_mod (pe_op op_fdivW (pv 1) pe_int) pe_int) (fun _ _ => rfl)))
    (pss_cons (ps_set (i := 5) sc_l_bent.nd rfl (by first | exact Or.inl rfl | exact Or.inr rfl) (pe_lst (pa_cons (pe_ix ix_seq (pv 2) (pe_op op_mod (pe_op op_fdivW (pv 1) pe_int) pe_int) (fun _ _ => rfl)) (pa_cons (pv 0) (pa_cons (pe_op op_addU (pe_op op_addU (pe_slice sl_U (pv 0) po_none (po_some (pv 3))) (pv 4)) (pe_slice sl_U (pv 0) (po_some (pv 3)) po_none)) pa_nil)))))
    (pss_cons (ps_expr (pe_bm PySem.F.plainAttrs_list PySem.F.slot_list_append PySem.F.type_list_append mt_append (pv 5) (pa_cons (pe_op op_addU (pe_slice sl_U (pv 0) po_none (po_some (pv 3))) (pe_slice sl_U (pv 0) (po_some (pe_op op_addU (pv 3) pe_int)) po_none)) pa_nil)))
    (pss_cons (ps_expr (pe_bm PySem.F.plainAttrs_list PySem.F.slot_list_append PySem.F.type_list_append mt_append (pv 5) (pa_cons (pe_op op_addU (pe_op op_addU (pe_slice sl_U (pv 0) po_none (po_some (pv 3))) (pv 4)) (pe_slice sl_U (pv 0) (po_some (pe_op op_addU (pv 3) pe_int)) po_none)) pa_nil)))
    (pss_one (ps_ret (pe_ix ix_seq (pv 5) (pe_op op_mod (pv 1) pe_int) (fun _ _ => rfl))))))))))))) (fun E xs out h => (rd_l_bent K Z E) ▸ sd_run (Hy := HY Z) T.zf h)
theorem ok_law (T : Txt K mg Z) : FnOk P w K mg base CX0 4 T.a_law T.d_law ["_law_script"] (spD K (RF (F_law Z))) :=
  ok_def (t := t_law K Z) T.F_law sc_law hl_run (fun cdv A outer s H E hr =>
    (pss_cons (ps_for PassesOwn.never rfl (pi_rangeW1 rfl T.n_range (pa_cons (pe_callB (call_max2 rfl) (by rfl) T.n_max (by decide +kernel) (pa_cons pe_int (pa_cons (pe_callB (call_min2 rfl) (by rfl) T.n_min (by decide +kernel) (pa_cons (pe_callB call_len (by rfl) T.n_len (by decide +kernel) (pa_cons (pv 0) pa_nil)) (pa_cons pe_int pa_nil))) pa_nil))) pa_nil)) (pg_name (i := 1) sc_law.nd rfl (by first | exact Or.inl rfl | exact Or.inr rfl))
    (pss_cons (ps_set (i := 2) sc_law.nd rfl (by first | exact Or.inl rfl | exact Or.inr rfl) (pe_call (ok_l_cell T) (hr.mono (by omega)) (by rfl) T.g_l_cell T.F_l_cell.kp T.b_l_cell .nil pass0 (pa_cons (pv 0) (pa_cons (pe_op op_mulU pe_int (pv 1)) pa_nil))))
    (pss_cons (ps_set (i := 3) sc_law.nd rfl (by first | exact Or.inl rfl | exact Or.inr rfl) (pe_call (ok_l_span T) (hr.mono (by omega)) (by rfl) T.g_l_span T.F_l_span.kp T.b_l_span .nil pass0 (pa_cons (pe_call (ok_l_cell T) (hr.mono (by omega)) (by rfl) T.g_l_cell T.F_l_cell.kp T.b_l_cell .nil pass0 (pa_cons (pv 0) (pa_cons (pe_op op_addU (pe_op op_mulU pe_int (pv 1)) pe_int) pa_nil))) (pa_cons (pe_call (ok_l_place T) (hr.mono (by omega)) (by rfl) T.g_l_place T.F_l_place.kp T.b_l_place .nil pass0 (pa_cons (pv 2) pa_nil)) pa_nil))))
    (pss_cons (ps_if (pt_cmpR (op_eqU hr.units) (pe_op op_mod (pe_op op_fdivW (pv 2) pe_int) pe_int) pe_int (nomark _))
    (pss_one (ps_set (i := 3) sc_law.nd rfl (by first | exact Or.inl rfl | exact Or.inr rfl) (pe_tupP (pa_cons (pe_ix ix_seq (pv 3) pe_int (fun _ _ => rfl)) (pa_cons (pe_ifExp (pt_cmpR op_isN1 (pe_ix ix_seq (pv 3) pe_int (fun _ _ => rfl)) pe_non (nomark _)) pe_non (pe_op op_addU (pe_op op_addU (pe_ix ix_seq (pv 3) pe_int (fun _ _ => rfl)) (pe_op op_pow pe_int pe_int)) (pv 2))) pa_nil))))) pss_nil)
    (pss_cons (ps_set (i := 4) sc_law.nd rfl (by first | exact Or.inl rfl | exact Or.inr rfl) (pe_call (ok_span_text T) (hr.mono (by omega)) (by rfl) T.g_span_text T.F_span_text.kp T.b_span_text .nil pass0 (pa_cons (pv 3) pa_nil)))
    (pss_cons (ps_if (PW.pt (pw_or (pt_cmpR (op_neU hr.units) (pv 4) (pe_call (ok_l_text T) (hr.mono (by omega)) (by rfl) T.g_l_text T.F_l_text.kp T.b_l_text .nil pass0 (pa_cons (pv 3) pa_nil)) (nomark _)) (pw_or1 (pt_not (pt_truth (pe_call (ok_l_alike T) (hr.mono (by omega)) (by rfl) T.g_l_alike T.F_l_alike.kp T.b_l_alike .nil pass0 (pa_cons (pe_call (ok_span_by T) (hr.mono (by omega)) (by rfl) T.g_span_by T.F_span_by.kp T.b_span_by .nil pass0 (pa_cons (pv 4) pa_nil)) (pa_cons (pv 3) pa_nil))) (by intro _; rfl))))))
    (pss_one (ps_ret pe_bl)) pss_nil)
    (pss_cons (ps_set (i := 5) sc_law.nd rfl (by first | exact Or.inl rfl | exact Or.inr rfl) (pe_op op_mulU (pe_call (ok_l_place T) (hr.mono (by omega)) (by rfl) T.g_l_place T.F_l_place.kp T.b_l_place .nil pass0 (pa_cons (pe_call (ok_l_cell T) (hr.mono (by omega)) (by rfl) T.g_l_cell T.F_l_cell.kp T.b_l_cell .nil pass0 (pa_cons (pv 0) (pa_cons (pe_op op_addU (pe_op op_mulU pe_int (pv 1)) pe_int) pa_nil))) pa_nil)) (pe_op op_addU (pe_op op_mulU (pv 2) (pv 2)) pe_int)))
    (pss_cons (ps_if (PW.pt (pw_or (pt_cmpR (op_neU hr.units) (pe_call (ok_number_text T) (hr.mono (by omega)) (by rfl) T.g_number_text T.F_number_text.kp T.b_number_text .nil pass0 (pa_cons (pv 5) pa_nil)) (pe_callTy call_strU (by rfl) T.n_str (by decide +kernel) (pa_cons (pv 5) pa_nil)) (nomark _)) (pw_or1 (pt_not (pt_truth (pe_call (ok_l_alike T) (hr.mono (by omega)) (by rfl) T.g_l_alike T.F_l_alike.kp T.b_l_alike .nil pass0 (pa_cons (pe_call (ok_number_by T) (hr.mono (by omega)) (by rfl) T.g_number_by T.F_number_by.kp T.b_number_by .nil pass0 (pa_cons (pe_callTy call_strU (by rfl) T.n_str (by decide +kernel) (pa_cons (pv 5) pa_nil)) pa_nil)) (pa_cons (pv 5) pa_nil))) (by intro _; rfl))))))
    (pss_one (ps_ret pe_bl)) pss_nil)
    (pss_cons (ps_set (i := 6) sc_law.nd rfl (by first | exact Or.inl rfl | exact Or.inr rfl) (pe_call (ok_l_bent T) (hr.mono (by omega)) (by rfl) T.g_l_bent T.F_l_bent.kp T.b_l_bent .nil pass0 (pa_cons (pe_ix ix_seq (pe_lst (pa_cons (pv 4) (pa_cons (pe_callTy call_strU (by rfl) T.n_str (by decide +kernel) (pa_cons (pv 5) pa_nil)) pa_nil))) (pe_op op_mod (pe_op op_fdivW (pv 2) pe_int) pe_int) (fun _ _ => rfl)) (pa_cons (pe_call (ok_l_cell T) (hr.mono (by omega)) (by rfl) T.g_l_cell T.F_l_cell.kp T.b_l_cell .nil pass0 (pa_cons (pv 0) (pa_cons (pe_op op_addU (pe_op op_mulU pe_int (pv 1)) pe_int) pa_nil))) pa_nil))))
    (pss_cons (ps_if (pt_not (pt_truth (pe_call (ok_l_alike T) (hr.mono (by omega)) (by rfl) T.g_l_alike T.F_l_alike.kp T.b_l_alike .nil pass0 (pa_cons (pe_call (ok_span_by T) (hr.mono (by omega)) (by rfl) T.g_span_by T.F_span_by.kp T.b_span_by .nil pass0 (pa_cons (pv 6) pa_nil)) (pa_cons (pe_call (ok_l_read T) (hr.mono (by omega)) (by rfl) T.g_l_read T.F_l_read.kp T.b_l_read .nil pass0 (pa_cons (pv 6) pa_nil)) pa_nil))) (by intro _; rfl)))
    (pss_one (ps_ret pe_bl)) pss_nil)
    (pss_one (ps_if (pt_not (pt_truth (pe_call (ok_l_alike T) (hr.mono (by omega)) (by rfl) T.g_l_alike T.F_l_alike.kp T.b_l_alike .nil pass0 (pa_cons (pe_call (ok_number_by T) (hr.mono (by omega)) (by rfl) T.g_number_by T.F_number_by.kp T.b_number_by .nil pass0 (pa_cons (pv 6) pa_nil)) (pa_cons (pe_call (ok_l_number T) (hr.mono (by omega)) (by rfl) T.g_l_number T.F_l_number.kp T.b_l_number .nil pass0 (pa_cons (pv 6) pa_nil)) pa_nil))) (by intro _; rfl)))
    (pss_one (ps_ret pe_bl)) pss_nil))))))))))))
    (pss_one (ps_ret pe_bl)))) (fun E xs out h => (rd_law K Z E) ▸ sd_run (Hy := HY Z) T.zf h)
end
theorem all_mk {l : PySem.W.OpenLaw} {w : World} {K : PySem.W.Frag} {h : Heap} {mg : Str → Option Value} {fa : Addr} (X : K.In h) (G : h.Ns mainGlobals mg) (hfa : mg "law" = some (.ref fa))
    {f_number_text : Addr} {od_number_text an_number_text : Option Addr} {sl_number_text : Array (Option Value)} {oc_number_text kV_number_text dc_number_text pm_number_text cd_number_text ct_number_text : Value}
    (a_number_text : PySem.W.nsIn K mainGlobals "number_text" = some (some (.ref f_number_text)))
    (l_number_text : K.lookup f_number_text = some ⟨oc_number_text, od_number_text, .func (PySem.W.fnOf "number_text" "number_text" (defArgs s_number_text) (defBody s_number_text) (defScope s_number_text) .none kV_number_text dc_number_text pm_number_text an_number_text cd_number_text ct_number_text), sl_number_text⟩)
    (c_number_text : PySem.W.codeIn K cd_number_text "number_text" = true)
    (k_number_text : PySem.W.keepIn K (.ref f_number_text) = true)
    {f_number_by : Addr} {od_number_by an_number_by : Option Addr} {sl_number_by : Array (Option Value)} {oc_number_by kV_number_by dc_number_by pm_number_by cd_number_by ct_number_by : Value}
    (a_number_by : PySem.W.nsIn K mainGlobals "number_by" = some (some (.ref f_number_by)))
    (l_number_by : K.lookup f_number_by = some ⟨oc_number_by, od_number_by, .func (PySem.W.fnOf "number_by" "number_by" (defArgs s_number_by) (defBody s_number_by) (defScope s_number_by) .none kV_number_by dc_number_by pm_number_by an_number_by cd_number_by ct_number_by), sl_number_by⟩)
    (c_number_by : PySem.W.codeIn K cd_number_by "number_by" = true)
    (k_number_by : PySem.W.keepIn K (.ref f_number_by) = true)
    {f_end_text : Addr} {od_end_text an_end_text : Option Addr} {sl_end_text : Array (Option Value)} {oc_end_text kV_end_text dc_end_text pm_end_text cd_end_text ct_end_text : Value}
    (a_end_text : PySem.W.nsIn K mainGlobals "end_text" = some (some (.ref f_end_text)))
    (l_end_text : K.lookup f_end_text = some ⟨oc_end_text, od_end_text, .func (PySem.W.fnOf "end_text" "end_text" (defArgs s_end_text) (defBody s_end_text) (defScope s_end_text) .none kV_end_text dc_end_text pm_end_text an_end_text cd_end_text ct_end_text), sl_end_text⟩)
    (c_end_text : PySem.W.codeIn K cd_end_text "end_text" = true)
    (k_end_text : PySem.W.keepIn K (.ref f_end_text) = true)
    {f_span_text : Addr} {od_span_text an_span_text : Option Addr} {sl_span_text : Array (Option Value)} {oc_span_text kV_span_text dc_span_text pm_span_text cd_span_text ct_span_text : Value}
    (a_span_text : PySem.W.nsIn K mainGlobals "span_text" = some (some (.ref f_span_text)))
    (l_span_text : K.lookup f_span_text = some ⟨oc_span_text, od_span_text, .func (PySem.W.fnOf "span_text" "span_text" (defArgs s_span_text) (defBody s_span_text) (defScope s_span_text) .none kV_span_text dc_span_text pm_span_text an_span_text cd_span_text ct_span_text), sl_span_text⟩)
    (c_span_text : PySem.W.codeIn K cd_span_text "span_text" = true)
    (k_span_text : PySem.W.keepIn K (.ref f_span_text) = true)
    {f_span_by : Addr} {od_span_by an_span_by : Option Addr} {sl_span_by : Array (Option Value)} {oc_span_by kV_span_by dc_span_by pm_span_by cd_span_by ct_span_by : Value}
    (a_span_by : PySem.W.nsIn K mainGlobals "span_by" = some (some (.ref f_span_by)))
    (l_span_by : K.lookup f_span_by = some ⟨oc_span_by, od_span_by, .func (PySem.W.fnOf "span_by" "span_by" (defArgs s_span_by) (defBody s_span_by) (defScope s_span_by) .none kV_span_by dc_span_by pm_span_by an_span_by cd_span_by ct_span_by), sl_span_by⟩)
    (c_span_by : PySem.W.codeIn K cd_span_by "span_by" = true)
    (k_span_by : PySem.W.keepIn K (.ref f_span_by) = true)
    {f_l_cell : Addr} {od_l_cell an_l_cell : Option Addr} {sl_l_cell : Array (Option Value)} {oc_l_cell kV_l_cell dc_l_cell pm_l_cell cd_l_cell ct_l_cell : Value}
    (a_l_cell : PySem.W.nsIn K mainGlobals "_law_cell" = some (some (.ref f_l_cell)))
    (l_l_cell : K.lookup f_l_cell = some ⟨oc_l_cell, od_l_cell, .func (PySem.W.fnOf "_law_cell" "_law_cell" (defArgs s_l_cell) (defBody s_l_cell) (defScope s_l_cell) .none kV_l_cell dc_l_cell pm_l_cell an_l_cell cd_l_cell ct_l_cell), sl_l_cell⟩)
    (c_l_cell : PySem.W.codeIn K cd_l_cell "_law_cell" = true)
    (k_l_cell : PySem.W.keepIn K (.ref f_l_cell) = true)
    {f_l_place : Addr} {od_l_place an_l_place : Option Addr} {sl_l_place : Array (Option Value)} {oc_l_place kV_l_place dc_l_place pm_l_place cd_l_place ct_l_place : Value}
    (a_l_place : PySem.W.nsIn K mainGlobals "_law_place" = some (some (.ref f_l_place)))
    (l_l_place : K.lookup f_l_place = some ⟨oc_l_place, od_l_place, .func (PySem.W.fnOf "_law_place" "_law_place" (defArgs s_l_place) (defBody s_l_place) (defScope s_l_place) .none kV_l_place dc_l_place pm_l_place an_l_place cd_l_place ct_l_place), sl_l_place⟩)
    (c_l_place : PySem.W.codeIn K cd_l_place "_law_place" = true)
    (k_l_place : PySem.W.keepIn K (.ref f_l_place) = true)
    {f_l_span : Addr} {od_l_span an_l_span : Option Addr} {sl_l_span : Array (Option Value)} {oc_l_span kV_l_span dc_l_span pm_l_span cd_l_span ct_l_span : Value}
    (a_l_span : PySem.W.nsIn K mainGlobals "_law_span" = some (some (.ref f_l_span)))
    (l_l_span : K.lookup f_l_span = some ⟨oc_l_span, od_l_span, .func (PySem.W.fnOf "_law_span" "_law_span" (defArgs s_l_span) (defBody s_l_span) (defScope s_l_span) .none kV_l_span dc_l_span pm_l_span an_l_span cd_l_span ct_l_span), sl_l_span⟩)
    (c_l_span : PySem.W.codeIn K cd_l_span "_law_span" = true)
    (k_l_span : PySem.W.keepIn K (.ref f_l_span) = true)
    {f_l_alike : Addr} {od_l_alike an_l_alike : Option Addr} {sl_l_alike : Array (Option Value)} {oc_l_alike kV_l_alike dc_l_alike pm_l_alike cd_l_alike ct_l_alike : Value}
    (a_l_alike : PySem.W.nsIn K mainGlobals "_law_alike" = some (some (.ref f_l_alike)))
    (l_l_alike : K.lookup f_l_alike = some ⟨oc_l_alike, od_l_alike, .func (PySem.W.fnOf "_law_alike" "_law_alike" (defArgs s_l_alike) (defBody s_l_alike) (defScope s_l_alike) .none kV_l_alike dc_l_alike pm_l_alike an_l_alike cd_l_alike ct_l_alike), sl_l_alike⟩)
    (c_l_alike : PySem.W.codeIn K cd_l_alike "_law_alike" = true)
    (k_l_alike : PySem.W.keepIn K (.ref f_l_alike) = true)
    {f_l_number : Addr} {od_l_number an_l_number : Option Addr} {sl_l_number : Array (Option Value)} {oc_l_number kV_l_number dc_l_number pm_l_number cd_l_number ct_l_number : Value}
    (a_l_number : PySem.W.nsIn K mainGlobals "_law_number" = some (some (.ref f_l_number)))
    (l_l_number : K.lookup f_l_number = some ⟨oc_l_number, od_l_number, .func (PySem.W.fnOf "_law_number" "_law_number" (defArgs s_l_number) (defBody s_l_number) (defScope s_l_number) .none kV_l_number dc_l_number pm_l_number an_l_number cd_l_number ct_l_number), sl_l_number⟩)
    (c_l_number : PySem.W.codeIn K cd_l_number "_law_number" = true)
    (k_l_number : PySem.W.keepIn K (.ref f_l_number) = true)
    {f_l_read : Addr} {od_l_read an_l_read : Option Addr} {sl_l_read : Array (Option Value)} {oc_l_read kV_l_read dc_l_read pm_l_read cd_l_read ct_l_read : Value}
    (a_l_read : PySem.W.nsIn K mainGlobals "_law_read" = some (some (.ref f_l_read)))
    (l_l_read : K.lookup f_l_read = some ⟨oc_l_read, od_l_read, .func (PySem.W.fnOf "_law_read" "_law_read" (defArgs s_l_read) (defBody s_l_read) (defScope s_l_read) .none kV_l_read dc_l_read pm_l_read an_l_read cd_l_read ct_l_read), sl_l_read⟩)
    (c_l_read : PySem.W.codeIn K cd_l_read "_law_read" = true)
    (k_l_read : PySem.W.keepIn K (.ref f_l_read) = true)
    {f_l_text : Addr} {od_l_text an_l_text : Option Addr} {sl_l_text : Array (Option Value)} {oc_l_text kV_l_text dc_l_text pm_l_text cd_l_text ct_l_text : Value}
    (a_l_text : PySem.W.nsIn K mainGlobals "_law_text" = some (some (.ref f_l_text)))
    (l_l_text : K.lookup f_l_text = some ⟨oc_l_text, od_l_text, .func (PySem.W.fnOf "_law_text" "_law_text" (defArgs s_l_text) (defBody s_l_text) (defScope s_l_text) .none kV_l_text dc_l_text pm_l_text an_l_text cd_l_text ct_l_text), sl_l_text⟩)
    (c_l_text : PySem.W.codeIn K cd_l_text "_law_text" = true)
    (k_l_text : PySem.W.keepIn K (.ref f_l_text) = true)
    {f_l_bent : Addr} {od_l_bent an_l_bent : Option Addr} {sl_l_bent : Array (Option Value)} {oc_l_bent kV_l_bent dc_l_bent pm_l_bent cd_l_bent ct_l_bent : Value}
    (a_l_bent : PySem.W.nsIn K mainGlobals "_law_bent" = some (some (.ref f_l_bent)))
    (l_l_bent : K.lookup f_l_bent = some ⟨oc_l_bent, od_l_bent, .func (PySem.W.fnOf "_law_bent" "_law_bent" (defArgs s_l_bent) (defBody s_l_bent) (defScope s_l_bent) .none kV_l_bent dc_l_bent pm_l_bent an_l_bent cd_l_bent ct_l_bent), sl_l_bent⟩)
    (c_l_bent : PySem.W.codeIn K cd_l_bent "_law_bent" = true)
    (k_l_bent : PySem.W.keepIn K (.ref f_l_bent) = true)
    {f_law : Addr} {od_law an_law : Option Addr} {sl_law : Array (Option Value)} {oc_law kV_law dc_law pm_law cd_law ct_law : Value}
    (a_law : PySem.W.nsIn K mainGlobals "law" = some (some (.ref f_law)))
    (l_law : K.lookup f_law = some ⟨oc_law, od_law, .func (PySem.W.fnOf "law" "law" (defArgs s_law) (defBody s_law) (defScope s_law) .none kV_law dc_law pm_law an_law cd_law ct_law), sl_law⟩)
    (c_law : PySem.W.codeIn K cd_law "law" = true)
    (k_law : PySem.W.keepIn K (.ref f_law) = true)
    (z_all : PySem.W.nsIn K mainGlobals "all" = some none)
    (z_bool : PySem.W.nsIn K mainGlobals "bool" = some none)
    (z_int : PySem.W.nsIn K mainGlobals "int" = some none)
    (z_isinstance : PySem.W.nsIn K mainGlobals "isinstance" = some none)
    (z_len : PySem.W.nsIn K mainGlobals "len" = some none)
    (z_list : PySem.W.nsIn K mainGlobals "list" = some none)
    (z_max : PySem.W.nsIn K mainGlobals "max" = some none)
    (z_min : PySem.W.nsIn K mainGlobals "min" = some none)
    (z_range : PySem.W.nsIn K mainGlobals "range" = some none)
    (z_str : PySem.W.nsIn K mainGlobals "str" = some none)
    (z_tuple : PySem.W.nsIn K mainGlobals "tuple" = some none)
    {tk_FIGURES : Tok}
    (z_FIGURES : PySem.W.nsIn K mainGlobals "FIGURES" = some (some (.str "0123456789" tk_FIGURES)))
    (hnd : List.Nodup ([] : List Addr))
    : ∃ fd : FuncData, (∀ (s : Shared) (v : Value), BindsTo s fd ⟨[v], []⟩ [("_law_script", v)]) ∧ ∀ base : Heap, K.In base → base.Ns mainGlobals mg → FnOk l.prog w K mg base CX0 4 fa fd ["_law_script"] (spD K R_law) := by
  have e := hfa.symm.trans (PySem.W.mg_of X G a_law)
  cases e
  let T : Txt K mg (Zs.of [] hnd) := {
    a_number_text := _, d_number_text := _, F_number_text := fun_mk (st := s_number_text) l_number_text c_number_text k_number_text, b_number_text := (fun_mk (st := s_number_text) l_number_text c_number_text k_number_text).binds (fun _ _ _ _ _ _ us hl => match us, hl with | [_], _ => rfl), g_number_text := PySem.W.mg_of X G a_number_text,
    a_number_by := _, d_number_by := _, F_number_by := fun_mk (st := s_number_by) l_number_by c_number_by k_number_by, b_number_by := (fun_mk (st := s_number_by) l_number_by c_number_by k_number_by).binds (fun _ _ _ _ _ _ us hl => match us, hl with | [_], _ => rfl), g_number_by := PySem.W.mg_of X G a_number_by,
    a_end_text := _, d_end_text := _, F_end_text := fun_mk (st := s_end_text) l_end_text c_end_text k_end_text, b_end_text := (fun_mk (st := s_end_text) l_end_text c_end_text k_end_text).binds (fun _ _ _ _ _ _ us hl => match us, hl with | [_], _ => rfl), g_end_text := PySem.W.mg_of X G a_end_text,
    a_span_text := _, d_span_text := _, F_span_text := fun_mk (st := s_span_text) l_span_text c_span_text k_span_text, b_span_text := (fun_mk (st := s_span_text) l_span_text c_span_text k_span_text).binds (fun _ _ _ _ _ _ us hl => match us, hl with | [_], _ => rfl), g_span_text := PySem.W.mg_of X G a_span_text,
    a_span_by := _, d_span_by := _, F_span_by := fun_mk (st := s_span_by) l_span_by c_span_by k_span_by, b_span_by := (fun_mk (st := s_span_by) l_span_by c_span_by k_span_by).binds (fun _ _ _ _ _ _ us hl => match us, hl with | [_], _ => rfl), g_span_by := PySem.W.mg_of X G a_span_by,
    a_l_cell := _, d_l_cell := _, F_l_cell := fun_mk (st := s_l_cell) l_l_cell c_l_cell k_l_cell, b_l_cell := (fun_mk (st := s_l_cell) l_l_cell c_l_cell k_l_cell).binds (fun _ _ _ _ _ _ us hl => match us, hl with | [_, _], _ => rfl), g_l_cell := PySem.W.mg_of X G a_l_cell,
    a_l_place := _, d_l_place := _, F_l_place := fun_mk (st := s_l_place) l_l_place c_l_place k_l_place, b_l_place := (fun_mk (st := s_l_place) l_l_place c_l_place k_l_place).binds (fun _ _ _ _ _ _ us hl => match us, hl with | [_], _ => rfl), g_l_place := PySem.W.mg_of X G a_l_place,
    a_l_span := _, d_l_span := _, F_l_span := fun_mk (st := s_l_span) l_l_span c_l_span k_l_span, b_l_span := (fun_mk (st := s_l_span) l_l_span c_l_span k_l_span).binds (fun _ _ _ _ _ _ us hl => match us, hl with | [_, _], _ => rfl), g_l_span := PySem.W.mg_of X G a_l_span,
    a_l_alike := _, d_l_alike := _, F_l_alike := fun_mk (st := s_l_alike) l_l_alike c_l_alike k_l_alike, b_l_alike := (fun_mk (st := s_l_alike) l_l_alike c_l_alike k_l_alike).binds (fun _ _ _ _ _ _ us hl => match us, hl with | [_, _], _ => rfl), g_l_alike := PySem.W.mg_of X G a_l_alike,
    a_l_number := _, d_l_number := _, F_l_number := fun_mk (st := s_l_number) l_l_number c_l_number k_l_number, b_l_number := (fun_mk (st := s_l_number) l_l_number c_l_number k_l_number).binds (fun _ _ _ _ _ _ us hl => match us, hl with | [_], _ => rfl), g_l_number := PySem.W.mg_of X G a_l_number,
    a_l_read := _, d_l_read := _, F_l_read := fun_mk (st := s_l_read) l_l_read c_l_read k_l_read, b_l_read := (fun_mk (st := s_l_read) l_l_read c_l_read k_l_read).binds (fun _ _ _ _ _ _ us hl => match us, hl with | [_], _ => rfl), g_l_read := PySem.W.mg_of X G a_l_read,
    a_l_text := _, d_l_text := _, F_l_text := fun_mk (st := s_l_text) l_l_text c_l_text k_l_text, b_l_text := (fun_mk (st := s_l_text) l_l_text c_l_text k_l_text).binds (fun _ _ _ _ _ _ us hl => match us, hl with | [_], _ => rfl), g_l_text := PySem.W.mg_of X G a_l_text,
    a_l_bent := _, d_l_bent := _, F_l_bent := fun_mk (st := s_l_bent) l_l_bent c_l_bent k_l_bent, b_l_bent := (fun_mk (st := s_l_bent) l_l_bent c_l_bent k_l_bent).binds (fun _ _ _ _ _ _ us hl => match us, hl with | [_, _], _ => rfl), g_l_bent := PySem.W.mg_of X G a_l_bent,
    a_law := _, d_law := _, F_law := fun_mk (st := s_law) l_law c_law k_law, b_law := (fun_mk (st := s_law) l_law c_law k_law).binds (fun _ _ _ _ _ _ us hl => match us, hl with | [_], _ => rfl), g_law := PySem.W.mg_of X G a_law,
    n_all := PySem.W.mg_none_of X G z_all,
    n_bool := PySem.W.mg_none_of X G z_bool,
    n_int := PySem.W.mg_none_of X G z_int,
    n_isinstance := PySem.W.mg_none_of X G z_isinstance,
    n_len := PySem.W.mg_none_of X G z_len,
    n_list := PySem.W.mg_none_of X G z_list,
    n_max := PySem.W.mg_none_of X G z_max,
    n_min := PySem.W.mg_none_of X G z_min,
    n_range := PySem.W.mg_none_of X G z_range,
    n_str := PySem.W.mg_none_of X G z_str,
    n_tuple := PySem.W.mg_none_of X G z_tuple,
    t_FIGURES := _, g_FIGURES := PySem.W.mg_of X G z_FIGURES,
    zf := {triv := trivial} }
  exact ⟨_, fun s v => .of_eq rfl, fun base _ _ => FnOk.imp (ok_law T) (spD_imp (law_rf (law_holds _)))⟩
theorem walk {l : PySem.W.OpenLaw} {q : Program} {loose : List Str} {XP : (Str → Option Value) → Heap → Prop} {YP : World → Heap → Prop} {d : DefRec} {K : Params → PySem.W.Frag} (hn : l.most = some 63) (hdf : d.params.defaults = [])
    (hY : ∀ (w : World) (h : Heap), YP w h → (K w.params).In h) (hT : ∀ w : World, tabsK (K w.params) = [])
    (F : ∀ (w : World) (mg : Str → Option Value) (fa : Addr) (h : Heap), (K w.params).In h → h.Ns mainGlobals mg → mg d.name = some (.ref fa) →
      ∃ fd : FuncData, (∀ (s : Shared) (u : Value), BindsTo s fd ⟨[u], []⟩ [("_law_script", u)]) ∧ ∀ base : Heap, (K w.params).In base → base.Ns mainGlobals mg → FnOk l.prog w (K w.params) mg base CX0 4 fa fd ["_law_script"] (spD (K w.params) R_law)) :
    PySem.W.WalkO q loose XP YP l.row.toRowW d [] (fun f vs => PySem.call f vs) :=
  L2.walk_of (n := 63) (k := 4) (x := "_law_script") (CX := fun _ => CX0) (sp := fun w => spD (K w.params) R_law) hn (by decide) hdf ⟨rfl, by decide, by decide⟩ hY F (fun _ _ a ns hl _ hS => law_asks hl hS (tab_none (hT _)) fun _ => rfl) fun _ _ _ _ _ z => z
end Far
open PySem PySem.W PyProof.Rows
set_option maxRecDepth 100000 in
set_option maxHeartbeats 0 in
theorem PySem.Challenge.cw_farrows_k13_whole_spans_written_holds : PySem.Challenge.rw_farrows_k13_whole_spans_written.Holds := by
  w_on; o_law; k_head; (case hw => w_witness2)
  k_fill
  refine Far.walk (l := PySem.Challenge.rw_farrows_k13_whole_spans_written) rfl rfl (fun w h Y => PySem.W.kIn_of Y) (fun w => rfl) ?F
  case F =>
    intro w mg fa h KX G hmg
    refine' Far.all_mk KX G hmg ?a_number_text ?l_number_text ?c_number_text ?k_number_text ?a_number_by ?l_number_by ?c_number_by ?k_number_by ?a_end_text ?l_end_text ?c_end_text ?k_end_text ?a_span_text ?l_span_text ?c_span_text ?k_span_text ?a_span_by ?l_span_by ?c_span_by ?k_span_by ?a_l_cell ?l_l_cell ?c_l_cell ?k_l_cell ?a_l_place ?l_l_place ?c_l_place ?k_l_place ?a_l_span ?l_l_span ?c_l_span ?k_l_span ?a_l_alike ?l_l_alike ?c_l_alike ?k_l_alike ?a_l_number ?l_l_number ?c_l_number ?k_l_number ?a_l_read ?l_l_read ?c_l_read ?k_l_read ?a_l_text ?l_l_text ?c_l_text ?k_l_text ?a_l_bent ?l_l_bent ?c_l_bent ?k_l_bent ?a_law ?l_law ?c_law ?k_law ?z_all ?z_bool ?z_int ?z_isinstance ?z_len ?z_list ?z_max ?z_min ?z_range ?z_str ?z_tuple ?z_FIGURES ?hnd
    (case a_number_text => k_is)
    (case l_number_text => k_is)
    (case c_number_text => k_is)
    (case k_number_text => k_is)
    (case a_number_by => k_is)
    (case l_number_by => k_is)
    (case c_number_by => k_is)
    (case k_number_by => k_is)
    (case a_end_text => k_is)
    (case l_end_text => k_is)
    (case c_end_text => k_is)
    (case k_end_text => k_is)
    (case a_span_text => k_is)
    (case l_span_text => k_is)
    (case c_span_text => k_is)
    (case k_span_text => k_is)
    (case a_span_by => k_is)
    (case l_span_by => k_is)
    (case c_span_by => k_is)
    (case k_span_by => k_is)
    (case a_l_cell => k_is)
    (case l_l_cell => k_is)
    (case c_l_cell => k_is)
    (case k_l_cell => k_is)
    (case a_l_place => k_is)
    (case l_l_place => k_is)
    (case c_l_place => k_is)
    (case k_l_place => k_is)
    (case a_l_span => k_is)
    (case l_l_span => k_is)
    (case c_l_span => k_is)
    (case k_l_span => k_is)
    (case a_l_alike => k_is)
    (case l_l_alike => k_is)
    (case c_l_alike => k_is)
    (case k_l_alike => k_is)
    (case a_l_number => k_is)
    (case l_l_number => k_is)
    (case c_l_number => k_is)
    (case k_l_number => k_is)
    (case a_l_read => k_is)
    (case l_l_read => k_is)
    (case c_l_read => k_is)
    (case k_l_read => k_is)
    (case a_l_text => k_is)
    (case l_l_text => k_is)
    (case c_l_text => k_is)
    (case k_l_text => k_is)
    (case a_l_bent => k_is)
    (case l_l_bent => k_is)
    (case c_l_bent => k_is)
    (case k_l_bent => k_is)
    (case a_law => k_is)
    (case l_law => k_is)
    (case c_law => k_is)
    (case k_law => k_is)
    (case z_all => k_is)
    (case z_bool => k_is)
    (case z_int => k_is)
    (case z_isinstance => k_is)
    (case z_len => k_is)
    (case z_list => k_is)
    (case z_max => k_is)
    (case z_min => k_is)
    (case z_range => k_is)
    (case z_str => k_is)
    (case z_tuple => k_is)
    (case z_FIGURES => k_is)
    (case hnd => decide +kernel)
