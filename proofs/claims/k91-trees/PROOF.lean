import PyProof.Rows.All
import Wide.All
import OpenK.AllK
import Wide.FinOn
import KE.KStateDown
import KE.KExcPX
import HandS.Base
import HandS.Call
import HandS.Exc
import HandS.Ends
import HandS.Words
import HandS.Head0
import HandS.Head1
import HandS.Head2
import HandS.HeadEnd
import HandS.HeadHook1
import HandS.ForMost
import HandS.IsInst
import HandS.Flow
import HandS.Wide
import HandS.Lambda
import KE.KDictCopyH
import HandS.Iter
import HandS.ExcValue
import HandS.ExcIs
import HandS.WordsExc
import HandS.TryOnly
import HandS.TupAny
import HandS.TupMul
import HandS.Deep
import HandS.RaiseMore
import HandS.SortKw
import KE.DataMinMax
import HandS.TupLe
import PyProof.FactsAll.tuple_2
import PyProof.EqAt
import PyProof.LongRange
import HandS.WideBits
import HandS.SortInts
import PyProof.ListRange
import HandS.Conv
import HandS.Style
import HandS.List
import PyProof.ReprRoads
import PyProof.ReprReads
import KE.KMinKey
import KE.SortData
import KE.LtData
import HandS.CallLocal
import HandS.EndTab
import HandS.HeadWalk
import KE.GoesMore
import HandS.Defaults
import HandS.Text
import HandS.StrMore
import HandS.Replace
import HandS.Codes
import HandS.ExcInit
import HandS.ExcField
import HandS.More
import HandS.SetKeys
import HandS.SetFor
import HandS.Strs
import PyProof.Rows.SortShellAny
import HandS.New0
import PySem.Challenge.RW_farrows_k91_trees_made
set_option Elab.async false
set_option linter.all false
set_option maxRecDepth 100000
set_option maxHeartbeats 4000000
set_option autoImplicit false
namespace FarH
open PySem PySem.Spec PyProof.Rows L2
/-- what is looked at of a function object -/
def fcore (d : FuncData) : He.FnV := some (d.1, d.2, d.3, d.4, d.5, d.6, d.7, d.8, d.15)
def fobs (K : PySem.W.Frag) (a : Addr) : He.FnV := match K.lookup a with
  | some o => (match o.data with
    | .func d => fcore d
    | _ => none)
  | none => none
def fcod (K : PySem.W.Frag) (a : Addr) (q : Str) : Bool := match K.lookup a with
  | some o => (match o.data with
    | .func d => PySem.W.codeIn K d.code q
    | _ => false)
  | none => false
structure FnA where
  a : Addr
  nm : Str
  qn : Str
  ps : Arguments
  bd : List Stmt
  sc : Scope
  df : Value
def FnA.val (d : FnA) : He.FnV := some (d.nm, d.qn, d.ps, .stmts d.bd, d.sc, mainGlobals, [], d.df, builtinsNs)
theorem fnA_ok {K : PySem.W.Frag} {d : FnA} (e : fobs K d.a = d.val) (c : fcod K d.a d.qn = true) :
    ∃ (oc : Value) (od : Option Addr) (sl : Array (Option Value)) (kV dc pm : Value) (an : Option Addr) (cd ct : Value), K.lookup d.a = some ⟨oc, od, .func (PySem.W.fnOf d.nm d.qn d.ps d.bd d.sc d.df kV dc pm an cd ct), sl⟩ ∧ PySem.W.codeIn K cd d.qn = true := by
  unfold fobs at e
  unfold fcod at c
  cases q : K.lookup d.a with
  | none => rw [q] at c; cases c
  | some o =>
    rw [q] at c e
    obtain ⟨oc, od, dt, sl⟩ := o
    cases dt with
    | func fd =>
      obtain ⟨n1, n2, n3, n4, n5, n6, n7, n8, n9, n10, n11, n12, n13, n14, n15⟩ := fd
      have e2 : (n1, n2, n3, n4, n5, n6, n7, n8, n15) = (d.nm, d.qn, d.ps, FuncBody.stmts d.bd, d.sc, mainGlobals, ([] : List (Str × Addr)), d.df, builtinsNs) := Option.some.inj e
      simp only [Prod.mk.injEq] at e2
      obtain ⟨rfl, rfl, rfl, rfl, rfl, rfl, rfl, rfl, rfl⟩ := e2
      exact ⟨oc, od, sl, n9, n10, n11, n12, n13, n14, rfl, c⟩
    | _ => cases c
abbrev AlQ : Type := Bool × List He.FnV
def obsQ (B : PySem.W.Frag → Bool) (fn : List FnA) (K : PySem.W.Frag) : AlQ := (B K && fn.all fun d => fcod K d.a d.qn, fn.map fun d => fobs K d.a)
def valQ (fn : List FnA) : AlQ := (true, fn.map FnA.val)
def SaysQ (B : PySem.W.Frag → Bool) (fn : List FnA) (K : PySem.W.Frag) : Prop := obsQ B fn K = valQ fn
def hookQ (as : List Addr) (B : PySem.W.Frag → Bool) (fn : List FnA) : PySem.W.Hook where
  α := AlQ
  obs s := obsQ B fn (He.frG s.heap.get? as)
  val _ := valQ fn
  says _ h := ∃ K : PySem.W.Frag, K.In h ∧ SaysQ B fn K
  of _ _ e := ⟨_, He.frG_in, e⟩
  keeps _ _ _ z k := z.elim fun K q => ⟨K, PySem.W.Frag.In.keeps q.1 k, q.2⟩
theorem obQ_eq {as : List Addr} {B : PySem.W.Frag → Bool} {fn : List FnA} (s : PySem.W.SharedT) : obsQ B fn (He.frG (HandSHeadRun.getT s) as) = (hookQ as B fn).obs s.abs := by
  have e : HandSHeadRun.getT s = s.abs.heap.get? := funext (HandSHeadRun.getT_eq s)
  rw [e]; rfl
section
variable {B : PySem.W.Frag → Bool} {fn : List FnA} {K : PySem.W.Frag}
theorem SaysQ.b (c : SaysQ B fn K) : B K = true := (He.ba (congrArg (fun z : AlQ => z.1) c)).1
theorem SaysQ.f (c : SaysQ B fn K) (i : Nat) {d : FnA} (h : fn[i]? = some d) :
    ∃ (oc : Value) (od : Option Addr) (sl : Array (Option Value)) (kV dc pm : Value) (an : Option Addr) (cd ct : Value), K.lookup d.a = some ⟨oc, od, .func (PySem.W.fnOf d.nm d.qn d.ps d.bd d.sc d.df kV dc pm an cd ct), sl⟩ ∧ PySem.W.codeIn K cd d.qn = true := by
  have e : (fn.map fun d => fobs K d.a)[i]? = (fn.map FnA.val)[i]? := congrArg (fun z : AlQ => z.2[i]?) c
  rw [List.getElem?_map, List.getElem?_map, h] at e
  exact fnA_ok (Option.some.inj e) (List.all_eq_true.mp (He.ba (congrArg (fun z : AlQ => z.1) c)).2 d (List.mem_of_getElem? h))
end
def isI (v : Option (Option Value)) (i : Int) : Bool := match v with
  | some (some (.int j _)) => decide (j = i)
  | _ => false
theorem isI_ok {v : Option (Option Value)} {i : Int} (h : isI v i = true) : ∃ t, v = some (some (.int i t)) := by
  match v, h with
  | some (some (.int j t)), h => exact ⟨t, by rw [of_decide_eq_true h]⟩
def isS (v : Option (Option Value)) (i : Str) : Bool := match v with
  | some (some (.str j _)) => decide (j = i)
  | _ => false
theorem isS_ok {v : Option (Option Value)} {i : Str} (h : isS v i = true) : ∃ t, v = some (some (.str i t)) := by
  match v, h with
  | some (some (.str j t)), h => exact ⟨t, by rw [of_decide_eq_true h]⟩
def strL : List Value → List Str → Bool
  | [], [] => true
  | x :: r, y :: q => isS (some (some x)) y && strL r q
  | _, _ => false
theorem strL_ok : ∀ {l : List Value} {ws : List Str}, strL l ws = true → Vals (ws.map V.str) l
  | [], [], _ => .nil
  | x :: r, y :: q, h => by
    obtain ⟨a, b⟩ := He.ba h
    obtain ⟨t, e⟩ := isS_ok a
    exact .cons ⟨t, Option.some.inj (Option.some.inj e)⟩ (strL_ok b)
def tupD (ws : List Str) : Data → Bool
  | .seq its _ => decide (its.size ≤ sizeLine) && strL its.toList ws
  | _ => false
theorem tupD_ok {ws : List Str} {d : Data} (h : tupD ws d = true) : ∃ (its : Array Value) (n : Nat), d = .seq its n ∧ its.size ≤ sizeLine ∧ Vals (ws.map V.str) its.toList := by
  cases d with
  | seq its n =>
    obtain ⟨a, b⟩ := He.ba h
    exact ⟨its, n, rfl, of_decide_eq_true a, strL_ok b⟩
  | _ => cases h
def isT (v : Option Obj) (ws : List Str) : Bool := match v with
  | some o => decide (o.cls = .type "tuple") && (o.dict.isNone && tupD ws o.data)
  | none => false
theorem isT_ok {v : Option Obj} {ws : List Str} (h : isT v ws = true) : ∃ o, v = some o ∧ ∃ (its : Array Value) (n : Nat), o.cls = .type "tuple" ∧ o.dict = none ∧ o.data = .seq its n ∧ its.size ≤ sizeLine ∧ Vals (ws.map V.str) its.toList := by
  cases v with
  | none => cases h
  | some o =>
    obtain ⟨a, b⟩ := He.ba h
    obtain ⟨b, d⟩ := He.ba b
    obtain ⟨its, n, e1, e2, e3⟩ := tupD_ok d
    exact ⟨o, rfl, its, n, of_decide_eq_true a, Option.isNone_iff_eq_none.mp b, e1, e2, e3⟩
def refB (C : Addr) : Value → Bool
  | .ref D => decide (D = C)
  | _ => false
def mroB (C : Addr) : List Value → Bool
  | [] => false
  | a :: bm => refB C a && PySem.HandSPX.refsVE bm
def clsD (C : Addr) : Data → Bool
  | .cls cd => cd.hasDict && (!cd.hasDel && mroB C cd.mro)
  | _ => false
/-- the fragment's first two addresses are not one -/
def noTab : PySem.W.Frag → Bool
  | (a, _) :: (b, _) :: _ => decide (b ≠ a)
  | _ => true
end FarH
namespace Far
open PySem L2 PyProof.Rows
def topS (i : Nat) : Stmt := PySem.Challenge.pw_farrows_k91_trees_made.main.body.getD i (.Pass ⟨0, 0, 0, 0⟩)
abbrev s_Rule_rule_word : Stmt := inClass (topS 17) 1
abbrev s_Over_rule_word : Stmt := inClass (topS 18) 1
abbrev s_Where_rule_word : Stmt := inClass (topS 19) 1
abbrev s_Without_rule_word : Stmt := inClass (topS 20) 1
abbrev s_Sum_rule_word : Stmt := inClass (topS 21) 1
abbrev s_Less_rule_word : Stmt := inClass (topS 22) 1
abbrev s_Least_rule_word : Stmt := inClass (topS 23) 1
abbrev s_Greatest_rule_word : Stmt := inClass (topS 24) 1
abbrev s_Same_rule_word : Stmt := inClass (topS 25) 1
abbrev s_all_rules : Stmt := topS 26
abbrev s_is_kept : Stmt := topS 38
abbrev s_is_name : Stmt := topS 39
abbrev s_need_fit : Stmt := topS 40
abbrev s_Named_init : Stmt := inClass (topS 42) 0
abbrev s_is_place : Stmt := topS 29
abbrev s_is_value : Stmt := topS 33
abbrev s_Flat_init : Stmt := inClass (topS 43) 0
abbrev s_is_span : Stmt := topS 30
abbrev s_Only_init : Stmt := inClass (topS 44) 0
abbrev s_Shifted_init : Stmt := inClass (topS 45) 0
abbrev s_Flipped_init : Stmt := inClass (topS 46) 0
abbrev s_rule_by : Stmt := topS 27
abbrev s_Joint_init : Stmt := inClass (topS 47) 0
abbrev s_Tree_limbs : Stmt := inClass (topS 41) 0
abbrev s_Tree_own_names : Stmt := inClass (topS 41) 1
abbrev s_Named_own_names : Stmt := inClass (topS 42) 1
abbrev s_Named_told : Stmt := inClass (topS 42) 2
abbrev s_Flat_told : Stmt := inClass (topS 43) 1
abbrev s_Only_limbs : Stmt := inClass (topS 44) 1
abbrev s_Joint_told : Stmt := inClass (topS 47) 2
abbrev s_Flipped_told : Stmt := inClass (topS 46) 2
abbrev s_Shifted_told : Stmt := inClass (topS 45) 2
abbrev s_Only_told : Stmt := inClass (topS 44) 2
abbrev s_Shifted_limbs : Stmt := inClass (topS 45) 1
abbrev s_Flipped_limbs : Stmt := inClass (topS 46) 1
abbrev s_Joint_limbs : Stmt := inClass (topS 47) 1
abbrev s_all_parts : Stmt := topS 48
abbrev s_names_in : Stmt := topS 49
abbrev s_parts_in : Stmt := topS 50
abbrev s_l_cell : Stmt := topS 52
abbrev s_l_value : Stmt := topS 53
abbrev s_l_word_of : Stmt := topS 54
abbrev s_l_titles : Stmt := topS 55
abbrev s_l_names : Stmt := topS 56
abbrev s_l_near_span : Stmt := topS 57
abbrev s_l_tree : Stmt := topS 58
abbrev s_l_made : Stmt := topS 59
abbrev s_l_kinds : Stmt := topS 60
abbrev s_l_names_of : Stmt := topS 61
abbrev s_l_fields_right : Stmt := topS 62
abbrev s_l_odd_name : Stmt := topS 63
abbrev s_l_is_name : Stmt := topS 64
abbrev s_l_wrong : Stmt := topS 65
abbrev s_l_deep_tree : Stmt := topS 66
abbrev s_l_twice_right : Stmt := topS 67
abbrev s_law : Stmt := topS 68
def fa_Rule_rule_word : FarH.FnA := ⟨223, "rule_word", "Rule.rule_word", defArgs s_Rule_rule_word, defBody s_Rule_rule_word, defScope s_Rule_rule_word, .none⟩
def fa_Over_rule_word : FarH.FnA := ⟨251, "rule_word", "Over.rule_word", defArgs s_Over_rule_word, defBody s_Over_rule_word, defScope s_Over_rule_word, .none⟩
def fa_Where_rule_word : FarH.FnA := ⟨277, "rule_word", "Where.rule_word", defArgs s_Where_rule_word, defBody s_Where_rule_word, defScope s_Where_rule_word, .none⟩
def fa_Without_rule_word : FarH.FnA := ⟨303, "rule_word", "Without.rule_word", defArgs s_Without_rule_word, defBody s_Without_rule_word, defScope s_Without_rule_word, .none⟩
def fa_Sum_rule_word : FarH.FnA := ⟨329, "rule_word", "Sum.rule_word", defArgs s_Sum_rule_word, defBody s_Sum_rule_word, defScope s_Sum_rule_word, .none⟩
def fa_Less_rule_word : FarH.FnA := ⟨355, "rule_word", "Less.rule_word", defArgs s_Less_rule_word, defBody s_Less_rule_word, defScope s_Less_rule_word, .none⟩
def fa_Least_rule_word : FarH.FnA := ⟨379, "rule_word", "Least.rule_word", defArgs s_Least_rule_word, defBody s_Least_rule_word, defScope s_Least_rule_word, .none⟩
def fa_Greatest_rule_word : FarH.FnA := ⟨403, "rule_word", "Greatest.rule_word", defArgs s_Greatest_rule_word, defBody s_Greatest_rule_word, defScope s_Greatest_rule_word, .none⟩
def fa_Same_rule_word : FarH.FnA := ⟨429, "rule_word", "Same.rule_word", defArgs s_Same_rule_word, defBody s_Same_rule_word, defScope s_Same_rule_word, .none⟩
def fa_all_rules : FarH.FnA := ⟨441, "all_rules", "all_rules", defArgs s_all_rules, defBody s_all_rules, defScope s_all_rules, .none⟩
def fa_is_kept : FarH.FnA := ⟨480, "is_kept", "is_kept", defArgs s_is_kept, defBody s_is_kept, defScope s_is_kept, .none⟩
def fa_is_name : FarH.FnA := ⟨485, "is_name", "is_name", defArgs s_is_name, defBody s_is_name, defScope s_is_name, .none⟩
def fa_need_fit : FarH.FnA := ⟨492, "need_fit", "need_fit", defArgs s_need_fit, defBody s_need_fit, defScope s_need_fit, .none⟩
def fa_Named_init : FarH.FnA := ⟨534, "__init__", "Named.__init__", defArgs s_Named_init, defBody s_Named_init, defScope s_Named_init, .none⟩
def fa_is_place : FarH.FnA := ⟨455, "is_place", "is_place", defArgs s_is_place, defBody s_is_place, defScope s_is_place, .none⟩
def fa_is_value : FarH.FnA := ⟨474, "is_value", "is_value", defArgs s_is_value, defBody s_is_value, defScope s_is_value, .none⟩
def fa_Flat_init : FarH.FnA := ⟨574, "__init__", "Flat.__init__", defArgs s_Flat_init, defBody s_Flat_init, defScope s_Flat_init, .none⟩
def fa_is_span : FarH.FnA := ⟨460, "is_span", "is_span", defArgs s_is_span, defBody s_is_span, defScope s_is_span, .none⟩
def fa_Only_init : FarH.FnA := ⟨607, "__init__", "Only.__init__", defArgs s_Only_init, defBody s_Only_init, defScope s_Only_init, .none⟩
def fa_Shifted_init : FarH.FnA := ⟨647, "__init__", "Shifted.__init__", defArgs s_Shifted_init, defBody s_Shifted_init, defScope s_Shifted_init, .none⟩
def fa_Flipped_init : FarH.FnA := ⟨687, "__init__", "Flipped.__init__", defArgs s_Flipped_init, defBody s_Flipped_init, defScope s_Flipped_init, .none⟩
def fa_rule_by : FarH.FnA := ⟨448, "rule_by", "rule_by", defArgs s_rule_by, defBody s_rule_by, defScope s_rule_by, .none⟩
def fa_Joint_init : FarH.FnA := ⟨727, "__init__", "Joint.__init__", defArgs s_Joint_init, defBody s_Joint_init, defScope s_Joint_init, .none⟩
def fa_Tree_limbs : FarH.FnA := ⟨506, "limbs", "Tree.limbs", defArgs s_Tree_limbs, defBody s_Tree_limbs, defScope s_Tree_limbs, .none⟩
def fa_Tree_own_names : FarH.FnA := ⟨513, "own_names", "Tree.own_names", defArgs s_Tree_own_names, defBody s_Tree_own_names, defScope s_Tree_own_names, .none⟩
def fa_Named_own_names : FarH.FnA := ⟨541, "own_names", "Named.own_names", defArgs s_Named_own_names, defBody s_Named_own_names, defScope s_Named_own_names, .none⟩
def fa_Named_told : FarH.FnA := ⟨548, "told", "Named.told", defArgs s_Named_told, defBody s_Named_told, defScope s_Named_told, .none⟩
def fa_Flat_told : FarH.FnA := ⟨581, "told", "Flat.told", defArgs s_Flat_told, defBody s_Flat_told, defScope s_Flat_told, .none⟩
def fa_Only_limbs : FarH.FnA := ⟨614, "limbs", "Only.limbs", defArgs s_Only_limbs, defBody s_Only_limbs, defScope s_Only_limbs, .none⟩
def fa_Joint_told : FarH.FnA := ⟨741, "told", "Joint.told", defArgs s_Joint_told, defBody s_Joint_told, defScope s_Joint_told, .none⟩
def fa_Flipped_told : FarH.FnA := ⟨701, "told", "Flipped.told", defArgs s_Flipped_told, defBody s_Flipped_told, defScope s_Flipped_told, .none⟩
def fa_Shifted_told : FarH.FnA := ⟨661, "told", "Shifted.told", defArgs s_Shifted_told, defBody s_Shifted_told, defScope s_Shifted_told, .none⟩
def fa_Only_told : FarH.FnA := ⟨621, "told", "Only.told", defArgs s_Only_told, defBody s_Only_told, defScope s_Only_told, .none⟩
def fa_Shifted_limbs : FarH.FnA := ⟨654, "limbs", "Shifted.limbs", defArgs s_Shifted_limbs, defBody s_Shifted_limbs, defScope s_Shifted_limbs, .none⟩
def fa_Flipped_limbs : FarH.FnA := ⟨694, "limbs", "Flipped.limbs", defArgs s_Flipped_limbs, defBody s_Flipped_limbs, defScope s_Flipped_limbs, .none⟩
def fa_Joint_limbs : FarH.FnA := ⟨734, "limbs", "Joint.limbs", defArgs s_Joint_limbs, defBody s_Joint_limbs, defScope s_Joint_limbs, .none⟩
def fa_all_parts : FarH.FnA := ⟨760, "all_parts", "all_parts", defArgs s_all_parts, defBody s_all_parts, defScope s_all_parts, .none⟩
def fa_names_in : FarH.FnA := ⟨767, "names_in", "names_in", defArgs s_names_in, defBody s_names_in, defScope s_names_in, .none⟩
def fa_parts_in : FarH.FnA := ⟨774, "parts_in", "parts_in", defArgs s_parts_in, defBody s_parts_in, defScope s_parts_in, .none⟩
def fa_l_cell : FarH.FnA := ⟨781, "_law_cell", "_law_cell", defArgs s_l_cell, defBody s_l_cell, defScope s_l_cell, .none⟩
def fa_l_value : FarH.FnA := ⟨788, "_law_value", "_law_value", defArgs s_l_value, defBody s_l_value, defScope s_l_value, .none⟩
def fa_l_word_of : FarH.FnA := ⟨795, "_law_word_of", "_law_word_of", defArgs s_l_word_of, defBody s_l_word_of, defScope s_l_word_of, .none⟩
def fa_l_titles : FarH.FnA := ⟨802, "_law_titles", "_law_titles", defArgs s_l_titles, defBody s_l_titles, defScope s_l_titles, .none⟩
def fa_l_names : FarH.FnA := ⟨809, "_law_names", "_law_names", defArgs s_l_names, defBody s_l_names, defScope s_l_names, .none⟩
def fa_l_near_span : FarH.FnA := ⟨816, "_law_near_span", "_law_near_span", defArgs s_l_near_span, defBody s_l_near_span, defScope s_l_near_span, .none⟩
def fa_l_tree : FarH.FnA := ⟨823, "_law_tree", "_law_tree", defArgs s_l_tree, defBody s_l_tree, defScope s_l_tree, .none⟩
def fa_l_made : FarH.FnA := ⟨830, "_law_made", "_law_made", defArgs s_l_made, defBody s_l_made, defScope s_l_made, .none⟩
def fa_l_kinds : FarH.FnA := ⟨835, "_law_kinds", "_law_kinds", defArgs s_l_kinds, defBody s_l_kinds, defScope s_l_kinds, .none⟩
def fa_l_names_of : FarH.FnA := ⟨842, "_law_names_of", "_law_names_of", defArgs s_l_names_of, defBody s_l_names_of, defScope s_l_names_of, .none⟩
def fa_l_fields_right : FarH.FnA := ⟨849, "_law_fields_right", "_law_fields_right", defArgs s_l_fields_right, defBody s_l_fields_right, defScope s_l_fields_right, .none⟩
def fa_l_odd_name : FarH.FnA := ⟨856, "_law_odd_name", "_law_odd_name", defArgs s_l_odd_name, defBody s_l_odd_name, defScope s_l_odd_name, .none⟩
def fa_l_is_name : FarH.FnA := ⟨861, "_law_is_name", "_law_is_name", defArgs s_l_is_name, defBody s_l_is_name, defScope s_l_is_name, .none⟩
def fa_l_wrong : FarH.FnA := ⟨868, "_law_wrong", "_law_wrong", defArgs s_l_wrong, defBody s_l_wrong, defScope s_l_wrong, .none⟩
def fa_l_deep_tree : FarH.FnA := ⟨875, "_law_deep_tree", "_law_deep_tree", defArgs s_l_deep_tree, defBody s_l_deep_tree, defScope s_l_deep_tree, .none⟩
def fa_l_twice_right : FarH.FnA := ⟨882, "_law_twice_right", "_law_twice_right", defArgs s_l_twice_right, defBody s_l_twice_right, defScope s_l_twice_right, .none⟩
def fa_law : FarH.FnA := ⟨889, "law", "law", defArgs s_law, defBody s_law, defScope s_law, .none⟩
def fns0 : List FarH.FnA := [fa_Rule_rule_word, fa_Over_rule_word, fa_Where_rule_word, fa_Without_rule_word, fa_Sum_rule_word, fa_Less_rule_word, fa_Least_rule_word, fa_Greatest_rule_word, fa_Same_rule_word, fa_all_rules, fa_is_kept, fa_is_name, fa_need_fit, fa_Named_init, fa_is_place, fa_is_value]
def fns1 : List FarH.FnA := [fa_Flat_init, fa_is_span, fa_Only_init, fa_Shifted_init, fa_Flipped_init, fa_rule_by, fa_Joint_init, fa_Tree_limbs, fa_Tree_own_names, fa_Named_own_names, fa_Named_told, fa_Flat_told, fa_Only_limbs, fa_Joint_told, fa_Flipped_told, fa_Shifted_told]
def fns2 : List FarH.FnA := [fa_Only_told, fa_Shifted_limbs, fa_Flipped_limbs, fa_Joint_limbs, fa_all_parts, fa_names_in, fa_parts_in, fa_l_cell, fa_l_value, fa_l_word_of, fa_l_titles, fa_l_names, fa_l_near_span, fa_l_tree, fa_l_made, fa_l_kinds]
def fns3 : List FarH.FnA := [fa_l_names_of, fa_l_fields_right, fa_l_odd_name, fa_l_is_name, fa_l_wrong, fa_l_deep_tree, fa_l_twice_right, fa_law]
def fns : List FarH.FnA := fns0 ++ (fns1 ++ (fns2 ++ (fns3)))
abbrev Q0 (K : PySem.W.Frag) : Prop := (PySem.W.nsIn K mainGlobals "FarError" = some (some (.ref 24))) ∧ (PySem.W.nsIn K mainGlobals "NoSpan" = some (some (.ref 37))) ∧ (PySem.W.nsIn K mainGlobals "NoValue" = some (some (.ref 49))) ∧ (PySem.W.nsIn K mainGlobals "NoPlace" = some (some (.ref 61))) ∧ (PySem.W.nsIn K mainGlobals "NoCount" = some (some (.ref 73))) ∧ (PySem.W.nsIn K mainGlobals "NoWheel" = some (some (.ref 85))) ∧ (PySem.W.nsIn K mainGlobals "NoRow" = some (some (.ref 97))) ∧ (PySem.W.nsIn K mainGlobals "NoWord" = some (some (.ref 109))) ∧ (PySem.W.nsIn K mainGlobals "NoWalker" = some (some (.ref 121))) ∧ (PySem.W.nsIn K mainGlobals "NoState" = some (some (.ref 133))) ∧ (PySem.W.nsIn K mainGlobals "NoName" = some (some (.ref 145))) ∧ (PySem.W.nsIn K mainGlobals "NoVersion" = some (some (.ref 157))) ∧ (PySem.W.nsIn K mainGlobals "NoTree" = some (some (.ref 169))) ∧ (PySem.W.nsIn K mainGlobals "TooMany" = some (some (.ref 181))) ∧ (PySem.W.nsIn K mainGlobals "NoText" = some (some (.ref 200))) ∧ (PySem.W.nsIn K mainGlobals "Rule" = some (some (.ref 226))) ∧ (PySem.W.nsIn K mainGlobals "Over" = some (some (.ref 254))) ∧ (PySem.W.nsIn K mainGlobals "Where" = some (some (.ref 280))) ∧ (PySem.W.nsIn K mainGlobals "Without" = some (some (.ref 306))) ∧ (PySem.W.nsIn K mainGlobals "Sum" = some (some (.ref 332))) ∧ (PySem.W.nsIn K mainGlobals "Less" = some (some (.ref 358))) ∧ (PySem.W.nsIn K mainGlobals "Least" = some (some (.ref 382))) ∧ (PySem.W.nsIn K mainGlobals "Greatest" = some (some (.ref 406))) ∧ (PySem.W.nsIn K mainGlobals "Same" = some (some (.ref 432)))
def dQ0 (K : PySem.W.Frag) : Decidable (Q0 K) := inferInstance
abbrev Q1 (K : PySem.W.Frag) : Prop := (PySem.W.nsIn K mainGlobals "Tree" = some (some (.ref 516))) ∧ (PySem.W.nsIn K mainGlobals "Named" = some (some (.ref 558))) ∧ (PySem.W.nsIn K mainGlobals "Flat" = some (some (.ref 591))) ∧ (PySem.W.nsIn K mainGlobals "Only" = some (some (.ref 631))) ∧ (PySem.W.nsIn K mainGlobals "Shifted" = some (some (.ref 671))) ∧ (PySem.W.nsIn K mainGlobals "Flipped" = some (some (.ref 711))) ∧ (PySem.W.nsIn K mainGlobals "Joint" = some (some (.ref 751))) ∧ (PySem.W.findIn K (.ref 226) "rule_word" = some (some (.ref 223))) ∧ (PySem.W.isFn K (.ref 223) = true) ∧ (PySem.W.keepIn K (.ref 223) = true) ∧ (PySem.W.findIn K (.ref 254) "rule_word" = some (some (.ref 251))) ∧ (PySem.W.isFn K (.ref 251) = true) ∧ (PySem.W.keepIn K (.ref 251) = true) ∧ (PySem.W.findIn K (.ref 280) "rule_word" = some (some (.ref 277))) ∧ (PySem.W.isFn K (.ref 277) = true) ∧ (PySem.W.keepIn K (.ref 277) = true) ∧ (PySem.W.findIn K (.ref 306) "rule_word" = some (some (.ref 303))) ∧ (PySem.W.isFn K (.ref 303) = true) ∧ (PySem.W.keepIn K (.ref 303) = true) ∧ (PySem.W.findIn K (.ref 332) "rule_word" = some (some (.ref 329))) ∧ (PySem.W.isFn K (.ref 329) = true) ∧ (PySem.W.keepIn K (.ref 329) = true) ∧ (PySem.W.findIn K (.ref 358) "rule_word" = some (some (.ref 355))) ∧ (PySem.W.isFn K (.ref 355) = true)
def dQ1 (K : PySem.W.Frag) : Decidable (Q1 K) := inferInstance
abbrev Q2 (K : PySem.W.Frag) : Prop := (PySem.W.keepIn K (.ref 355) = true) ∧ (PySem.W.findIn K (.ref 382) "rule_word" = some (some (.ref 379))) ∧ (PySem.W.isFn K (.ref 379) = true) ∧ (PySem.W.keepIn K (.ref 379) = true) ∧ (PySem.W.findIn K (.ref 406) "rule_word" = some (some (.ref 403))) ∧ (PySem.W.isFn K (.ref 403) = true) ∧ (PySem.W.keepIn K (.ref 403) = true) ∧ (PySem.W.findIn K (.ref 432) "rule_word" = some (some (.ref 429))) ∧ (PySem.W.isFn K (.ref 429) = true) ∧ (PySem.W.keepIn K (.ref 429) = true) ∧ (PySem.W.nsIn K mainGlobals "all_rules" = some (some (.ref 441))) ∧ (PySem.W.keepIn K (.ref 441) = true) ∧ (PySem.W.nsIn K mainGlobals "is_kept" = some (some (.ref 480))) ∧ (PySem.W.keepIn K (.ref 480) = true) ∧ (PySem.W.nsIn K mainGlobals "is_name" = some (some (.ref 485))) ∧ (PySem.W.keepIn K (.ref 485) = true) ∧ (PySem.W.nsIn K mainGlobals "need_fit" = some (some (.ref 492))) ∧ (PySem.W.keepIn K (.ref 492) = true) ∧ (PySem.W.findIn K (.ref 558) "__init__" = some (some (.ref 534))) ∧ (PySem.W.isFn K (.ref 534) = true) ∧ (PySem.W.keepIn K (.ref 534) = true) ∧ (PySem.W.nsIn K mainGlobals "is_place" = some (some (.ref 455))) ∧ (PySem.W.keepIn K (.ref 455) = true) ∧ (PySem.W.nsIn K mainGlobals "is_value" = some (some (.ref 474)))
def dQ2 (K : PySem.W.Frag) : Decidable (Q2 K) := inferInstance
abbrev Q3 (K : PySem.W.Frag) : Prop := (PySem.W.keepIn K (.ref 474) = true) ∧ (PySem.W.findIn K (.ref 591) "__init__" = some (some (.ref 574))) ∧ (PySem.W.isFn K (.ref 574) = true) ∧ (PySem.W.keepIn K (.ref 574) = true) ∧ (PySem.W.nsIn K mainGlobals "is_span" = some (some (.ref 460))) ∧ (PySem.W.keepIn K (.ref 460) = true) ∧ (PySem.W.findIn K (.ref 631) "__init__" = some (some (.ref 607))) ∧ (PySem.W.isFn K (.ref 607) = true) ∧ (PySem.W.keepIn K (.ref 607) = true) ∧ (PySem.W.findIn K (.ref 671) "__init__" = some (some (.ref 647))) ∧ (PySem.W.isFn K (.ref 647) = true) ∧ (PySem.W.keepIn K (.ref 647) = true) ∧ (PySem.W.findIn K (.ref 711) "__init__" = some (some (.ref 687))) ∧ (PySem.W.isFn K (.ref 687) = true) ∧ (PySem.W.keepIn K (.ref 687) = true) ∧ (PySem.W.nsIn K mainGlobals "rule_by" = some (some (.ref 448))) ∧ (PySem.W.keepIn K (.ref 448) = true) ∧ (PySem.W.findIn K (.ref 751) "__init__" = some (some (.ref 727))) ∧ (PySem.W.isFn K (.ref 727) = true) ∧ (PySem.W.keepIn K (.ref 727) = true) ∧ (PySem.W.findIn K (.ref 516) "limbs" = some (some (.ref 506))) ∧ (PySem.W.isFn K (.ref 506) = true) ∧ (PySem.W.keepIn K (.ref 506) = true) ∧ (PySem.W.findIn K (.ref 516) "own_names" = some (some (.ref 513)))
def dQ3 (K : PySem.W.Frag) : Decidable (Q3 K) := inferInstance
abbrev Q4 (K : PySem.W.Frag) : Prop := (PySem.W.isFn K (.ref 513) = true) ∧ (PySem.W.keepIn K (.ref 513) = true) ∧ (PySem.W.findIn K (.ref 558) "own_names" = some (some (.ref 541))) ∧ (PySem.W.isFn K (.ref 541) = true) ∧ (PySem.W.keepIn K (.ref 541) = true) ∧ (PySem.W.findIn K (.ref 558) "told" = some (some (.ref 548))) ∧ (PySem.W.isFn K (.ref 548) = true) ∧ (PySem.W.keepIn K (.ref 548) = true) ∧ (PySem.W.findIn K (.ref 591) "told" = some (some (.ref 581))) ∧ (PySem.W.isFn K (.ref 581) = true) ∧ (PySem.W.keepIn K (.ref 581) = true) ∧ (PySem.W.findIn K (.ref 631) "limbs" = some (some (.ref 614))) ∧ (PySem.W.isFn K (.ref 614) = true) ∧ (PySem.W.keepIn K (.ref 614) = true) ∧ (PySem.W.findIn K (.ref 751) "told" = some (some (.ref 741))) ∧ (PySem.W.isFn K (.ref 741) = true) ∧ (PySem.W.keepIn K (.ref 741) = true) ∧ (PySem.W.findIn K (.ref 711) "told" = some (some (.ref 701))) ∧ (PySem.W.isFn K (.ref 701) = true) ∧ (PySem.W.keepIn K (.ref 701) = true) ∧ (PySem.W.findIn K (.ref 671) "told" = some (some (.ref 661))) ∧ (PySem.W.isFn K (.ref 661) = true) ∧ (PySem.W.keepIn K (.ref 661) = true) ∧ (PySem.W.findIn K (.ref 631) "told" = some (some (.ref 621)))
def dQ4 (K : PySem.W.Frag) : Decidable (Q4 K) := inferInstance
abbrev Q5 (K : PySem.W.Frag) : Prop := (PySem.W.isFn K (.ref 621) = true) ∧ (PySem.W.keepIn K (.ref 621) = true) ∧ (PySem.W.findIn K (.ref 671) "limbs" = some (some (.ref 654))) ∧ (PySem.W.isFn K (.ref 654) = true) ∧ (PySem.W.keepIn K (.ref 654) = true) ∧ (PySem.W.findIn K (.ref 711) "limbs" = some (some (.ref 694))) ∧ (PySem.W.isFn K (.ref 694) = true) ∧ (PySem.W.keepIn K (.ref 694) = true) ∧ (PySem.W.findIn K (.ref 751) "limbs" = some (some (.ref 734))) ∧ (PySem.W.isFn K (.ref 734) = true) ∧ (PySem.W.keepIn K (.ref 734) = true) ∧ (PySem.W.nsIn K mainGlobals "all_parts" = some (some (.ref 760))) ∧ (PySem.W.keepIn K (.ref 760) = true) ∧ (PySem.W.nsIn K mainGlobals "names_in" = some (some (.ref 767))) ∧ (PySem.W.keepIn K (.ref 767) = true) ∧ (PySem.W.nsIn K mainGlobals "parts_in" = some (some (.ref 774))) ∧ (PySem.W.keepIn K (.ref 774) = true) ∧ (PySem.W.nsIn K mainGlobals "_law_cell" = some (some (.ref 781))) ∧ (PySem.W.keepIn K (.ref 781) = true) ∧ (PySem.W.nsIn K mainGlobals "_law_value" = some (some (.ref 788))) ∧ (PySem.W.keepIn K (.ref 788) = true) ∧ (PySem.W.nsIn K mainGlobals "_law_word_of" = some (some (.ref 795))) ∧ (PySem.W.keepIn K (.ref 795) = true) ∧ (PySem.W.nsIn K mainGlobals "_law_titles" = some (some (.ref 802)))
def dQ5 (K : PySem.W.Frag) : Decidable (Q5 K) := inferInstance
abbrev Q6 (K : PySem.W.Frag) : Prop := (PySem.W.keepIn K (.ref 802) = true) ∧ (PySem.W.nsIn K mainGlobals "_law_names" = some (some (.ref 809))) ∧ (PySem.W.keepIn K (.ref 809) = true) ∧ (PySem.W.nsIn K mainGlobals "_law_near_span" = some (some (.ref 816))) ∧ (PySem.W.keepIn K (.ref 816) = true) ∧ (PySem.W.nsIn K mainGlobals "_law_tree" = some (some (.ref 823))) ∧ (PySem.W.keepIn K (.ref 823) = true) ∧ (PySem.W.nsIn K mainGlobals "_law_made" = some (some (.ref 830))) ∧ (PySem.W.keepIn K (.ref 830) = true) ∧ (PySem.W.nsIn K mainGlobals "_law_kinds" = some (some (.ref 835))) ∧ (PySem.W.keepIn K (.ref 835) = true) ∧ (PySem.W.nsIn K mainGlobals "_law_names_of" = some (some (.ref 842))) ∧ (PySem.W.keepIn K (.ref 842) = true) ∧ (PySem.W.nsIn K mainGlobals "_law_fields_right" = some (some (.ref 849))) ∧ (PySem.W.keepIn K (.ref 849) = true) ∧ (PySem.W.nsIn K mainGlobals "_law_odd_name" = some (some (.ref 856))) ∧ (PySem.W.keepIn K (.ref 856) = true) ∧ (PySem.W.nsIn K mainGlobals "_law_is_name" = some (some (.ref 861))) ∧ (PySem.W.keepIn K (.ref 861) = true) ∧ (PySem.W.nsIn K mainGlobals "_law_wrong" = some (some (.ref 868))) ∧ (PySem.W.keepIn K (.ref 868) = true) ∧ (PySem.W.nsIn K mainGlobals "_law_deep_tree" = some (some (.ref 875))) ∧ (PySem.W.keepIn K (.ref 875) = true) ∧ (PySem.W.nsIn K mainGlobals "_law_twice_right" = some (some (.ref 882)))
def dQ6 (K : PySem.W.Frag) : Decidable (Q6 K) := inferInstance
abbrev Q7 (K : PySem.W.Frag) : Prop := (PySem.W.keepIn K (.ref 882) = true) ∧ (PySem.W.nsIn K mainGlobals "law" = some (some (.ref 889))) ∧ (PySem.W.keepIn K (.ref 889) = true) ∧ (PySem.W.nsIn K mainGlobals "ValueError" = some none) ∧ (PySem.W.nsIn K mainGlobals "all" = some none) ∧ (PySem.W.nsIn K mainGlobals "bool" = some none) ∧ (PySem.W.nsIn K mainGlobals "int" = some none) ∧ (PySem.W.nsIn K mainGlobals "isinstance" = some none) ∧ (PySem.W.nsIn K mainGlobals "len" = some none) ∧ (PySem.W.nsIn K mainGlobals "min" = some none) ∧ (PySem.W.nsIn K mainGlobals "range" = some none) ∧ (PySem.W.nsIn K mainGlobals "set" = some none) ∧ (PySem.W.nsIn K mainGlobals "sorted" = some none) ∧ (PySem.W.nsIn K mainGlobals "str" = some none) ∧ (PySem.W.nsIn K mainGlobals "tuple" = some none) ∧ (FarH.isI (PySem.W.nsIn K mainGlobals "MOST_LETTERS") 8 = true) ∧ (FarH.isS (PySem.W.nsIn K mainGlobals "SMALL") "abcdefghijklmnopqrstuvwxyz" = true) ∧ (PySem.W.nsIn K mainGlobals "OWN_WORDS" = some (some (.ref 475))) ∧ (FarH.isT (K.lookup 475) ["flat", "only", "shifted", "flipped"] = true) ∧ (PySem.W.specialIn K (.builtin "object.__class__") "__get__" = some (some (.builtin "getset_descriptor.__get__"))) ∧ (PySem.W.takesIn K (.builtin "object.__class__") = some true) ∧ (PySem.W.excIn K 169 [.type "ValueError", .type "Exception", .type "BaseException", .type "object"] "ValueError.__new__" = true) ∧ (PySem.W.keepIn K (.ref 169) = true) ∧ (PySem.W.subIn K (.ref 169) (.type "BaseException") = some true)
def dQ7 (K : PySem.W.Frag) : Decidable (Q7 K) := inferInstance
abbrev Q8 (K : PySem.W.Frag) : Prop := (PySem.W.typeIn K (.ref 169) = some (.type "type")) ∧ (PySem.W.findIn K (.ref 169) "__getattribute__" = some (some (.builtin "BaseException.__getattribute__"))) ∧ (PySem.W.findIn K (.ref 169) "__getattr__" = some none) ∧ (PySem.W.hasDictIn K 169 = true) ∧ (PySem.W.findIn K (.ref 169) "__class__" = some (some (.builtin "object.__class__"))) ∧ (PySem.W.mroIn K 169 (.type "object") = some true) ∧ (PySem.W.subIn K (.ref 24) (.type "BaseException") = some true) ∧ (PySem.W.hasDictIn K 24 = true) ∧ (PySem.W.typeIn K (.ref 24) = some (.type "type")) ∧ (PySem.W.subIn K (.ref 169) (.ref 24) = some true) ∧ (PySem.W.isClsIn K 37 = true) ∧ (PySem.W.typeIn K (.ref 37) = some (.type "type")) ∧ (PySem.W.subIn K (.ref 37) (.ref 37) = some true) ∧ (PySem.W.subIn K (.ref 169) (.ref 37) = some false) ∧ (PySem.W.isClsIn K 49 = true) ∧ (PySem.W.typeIn K (.ref 49) = some (.type "type")) ∧ (PySem.W.subIn K (.ref 49) (.ref 49) = some true) ∧ (PySem.W.subIn K (.ref 169) (.ref 49) = some false) ∧ (PySem.W.isClsIn K 61 = true) ∧ (PySem.W.typeIn K (.ref 61) = some (.type "type")) ∧ (PySem.W.subIn K (.ref 61) (.ref 61) = some true) ∧ (PySem.W.subIn K (.ref 169) (.ref 61) = some false) ∧ (PySem.W.isClsIn K 133 = true) ∧ (PySem.W.typeIn K (.ref 133) = some (.type "type"))
def dQ8 (K : PySem.W.Frag) : Decidable (Q8 K) := inferInstance
abbrev Q9 (K : PySem.W.Frag) : Prop := (PySem.W.subIn K (.ref 133) (.ref 133) = some true) ∧ (PySem.W.subIn K (.ref 169) (.ref 133) = some false) ∧ (PySem.W.isClsIn K 157 = true) ∧ (PySem.W.typeIn K (.ref 157) = some (.type "type")) ∧ (PySem.W.subIn K (.ref 157) (.ref 157) = some true) ∧ (PySem.W.subIn K (.ref 169) (.ref 157) = some false) ∧ (PySem.W.isClsIn K 73 = true) ∧ (PySem.W.typeIn K (.ref 73) = some (.type "type")) ∧ (PySem.W.subIn K (.ref 73) (.ref 73) = some true) ∧ (PySem.W.subIn K (.ref 169) (.ref 73) = some false) ∧ (PySem.W.isClsIn K 97 = true) ∧ (PySem.W.typeIn K (.ref 97) = some (.type "type")) ∧ (PySem.W.subIn K (.ref 97) (.ref 97) = some true) ∧ (PySem.W.subIn K (.ref 169) (.ref 97) = some false) ∧ (PySem.W.isClsIn K 109 = true) ∧ (PySem.W.typeIn K (.ref 109) = some (.type "type")) ∧ (PySem.W.subIn K (.ref 109) (.ref 109) = some true) ∧ (PySem.W.subIn K (.ref 169) (.ref 109) = some false) ∧ (PySem.W.isClsIn K 145 = true) ∧ (PySem.W.typeIn K (.ref 145) = some (.type "type")) ∧ (PySem.W.subIn K (.ref 145) (.ref 145) = some true) ∧ (PySem.W.subIn K (.ref 169) (.ref 145) = some false) ∧ (PySem.W.isClsIn K 169 = true) ∧ (PySem.W.subIn K (.ref 169) (.ref 169) = some true)
def dQ9 (K : PySem.W.Frag) : Decidable (Q9 K) := inferInstance
abbrev Q10 (K : PySem.W.Frag) : Prop := (PySem.W.isClsIn K 181 = true) ∧ (PySem.W.typeIn K (.ref 181) = some (.type "type")) ∧ (PySem.W.subIn K (.ref 181) (.ref 181) = some true) ∧ (PySem.W.subIn K (.ref 169) (.ref 181) = some false) ∧ (PySem.W.isClsIn K 200 = true) ∧ (PySem.W.typeIn K (.ref 200) = some (.type "type")) ∧ (PySem.W.subIn K (.ref 200) (.ref 200) = some true) ∧ (PySem.W.subIn K (.ref 169) (.ref 200) = some false) ∧ (PySem.W.isClsIn K 85 = true) ∧ (PySem.W.typeIn K (.ref 85) = some (.type "type")) ∧ (PySem.W.subIn K (.ref 85) (.ref 85) = some true) ∧ (PySem.W.subIn K (.ref 169) (.ref 85) = some false) ∧ (PySem.W.isClsIn K 121 = true) ∧ (PySem.W.typeIn K (.ref 121) = some (.type "type")) ∧ (PySem.W.subIn K (.ref 121) (.ref 121) = some true) ∧ (PySem.W.subIn K (.ref 169) (.ref 121) = some false) ∧ (PySem.W.subIn K (.ref 169) (.type "ValueError") = some true) ∧ (PySem.W.plainGet K 226 Str.empty = true) ∧ (PySem.W.hasDictIn K 226 = true) ∧ (PySem.W.plainOver K 226 = true) ∧ (PySem.W.findIn K (.ref 226) "__setattr__" = some (some (.builtin "object.__setattr__"))) ∧ (PySem.W.findIn K (.ref 226) "__class__" = some (some (.builtin "object.__class__"))) ∧ (PySem.W.mroIn K 226 (.type "object") = some true) ∧ (PySem.W.isClsIn K 516 = true)
def dQ10 (K : PySem.W.Frag) : Decidable (Q10 K) := inferInstance
abbrev Q11 (K : PySem.W.Frag) : Prop := (PySem.W.typeIn K (.ref 516) = some (.type "type")) ∧ (PySem.W.subIn K (.ref 516) (.ref 516) = some true) ∧ (PySem.W.subIn K (.ref 226) (.ref 516) = some false) ∧ (PySem.W.plainGet K 254 Str.empty = true) ∧ (PySem.W.hasDictIn K 254 = true) ∧ (PySem.W.plainOver K 254 = true) ∧ (PySem.W.findIn K (.ref 254) "__setattr__" = some (some (.builtin "object.__setattr__"))) ∧ (PySem.W.findIn K (.ref 254) "__class__" = some (some (.builtin "object.__class__"))) ∧ (PySem.W.mroIn K 254 (.type "object") = some true) ∧ (PySem.W.subIn K (.ref 254) (.ref 516) = some false) ∧ (PySem.W.plainGet K 280 Str.empty = true) ∧ (PySem.W.hasDictIn K 280 = true) ∧ (PySem.W.plainOver K 280 = true) ∧ (PySem.W.findIn K (.ref 280) "__setattr__" = some (some (.builtin "object.__setattr__"))) ∧ (PySem.W.findIn K (.ref 280) "__class__" = some (some (.builtin "object.__class__"))) ∧ (PySem.W.mroIn K 280 (.type "object") = some true) ∧ (PySem.W.subIn K (.ref 280) (.ref 516) = some false) ∧ (PySem.W.plainGet K 306 Str.empty = true) ∧ (PySem.W.hasDictIn K 306 = true) ∧ (PySem.W.plainOver K 306 = true) ∧ (PySem.W.findIn K (.ref 306) "__setattr__" = some (some (.builtin "object.__setattr__"))) ∧ (PySem.W.findIn K (.ref 306) "__class__" = some (some (.builtin "object.__class__"))) ∧ (PySem.W.mroIn K 306 (.type "object") = some true) ∧ (PySem.W.subIn K (.ref 306) (.ref 516) = some false)
def dQ11 (K : PySem.W.Frag) : Decidable (Q11 K) := inferInstance
abbrev Q12 (K : PySem.W.Frag) : Prop := (PySem.W.plainGet K 332 Str.empty = true) ∧ (PySem.W.hasDictIn K 332 = true) ∧ (PySem.W.plainOver K 332 = true) ∧ (PySem.W.findIn K (.ref 332) "__setattr__" = some (some (.builtin "object.__setattr__"))) ∧ (PySem.W.findIn K (.ref 332) "__class__" = some (some (.builtin "object.__class__"))) ∧ (PySem.W.mroIn K 332 (.type "object") = some true) ∧ (PySem.W.subIn K (.ref 332) (.ref 516) = some false) ∧ (PySem.W.plainGet K 358 Str.empty = true) ∧ (PySem.W.hasDictIn K 358 = true) ∧ (PySem.W.plainOver K 358 = true) ∧ (PySem.W.findIn K (.ref 358) "__setattr__" = some (some (.builtin "object.__setattr__"))) ∧ (PySem.W.findIn K (.ref 358) "__class__" = some (some (.builtin "object.__class__"))) ∧ (PySem.W.mroIn K 358 (.type "object") = some true) ∧ (PySem.W.subIn K (.ref 358) (.ref 516) = some false) ∧ (PySem.W.plainGet K 382 Str.empty = true) ∧ (PySem.W.hasDictIn K 382 = true) ∧ (PySem.W.plainOver K 382 = true) ∧ (PySem.W.findIn K (.ref 382) "__setattr__" = some (some (.builtin "object.__setattr__"))) ∧ (PySem.W.findIn K (.ref 382) "__class__" = some (some (.builtin "object.__class__"))) ∧ (PySem.W.mroIn K 382 (.type "object") = some true) ∧ (PySem.W.subIn K (.ref 382) (.ref 516) = some false) ∧ (PySem.W.plainGet K 406 Str.empty = true) ∧ (PySem.W.hasDictIn K 406 = true) ∧ (PySem.W.plainOver K 406 = true)
def dQ12 (K : PySem.W.Frag) : Decidable (Q12 K) := inferInstance
abbrev Q13 (K : PySem.W.Frag) : Prop := (PySem.W.findIn K (.ref 406) "__setattr__" = some (some (.builtin "object.__setattr__"))) ∧ (PySem.W.findIn K (.ref 406) "__class__" = some (some (.builtin "object.__class__"))) ∧ (PySem.W.mroIn K 406 (.type "object") = some true) ∧ (PySem.W.subIn K (.ref 406) (.ref 516) = some false) ∧ (PySem.W.plainGet K 432 Str.empty = true) ∧ (PySem.W.hasDictIn K 432 = true) ∧ (PySem.W.plainOver K 432 = true) ∧ (PySem.W.findIn K (.ref 432) "__setattr__" = some (some (.builtin "object.__setattr__"))) ∧ (PySem.W.findIn K (.ref 432) "__class__" = some (some (.builtin "object.__class__"))) ∧ (PySem.W.mroIn K 432 (.type "object") = some true) ∧ (PySem.W.subIn K (.ref 432) (.ref 516) = some false) ∧ (PySem.W.plainGet K 516 Str.empty = true) ∧ (PySem.W.hasDictIn K 516 = true) ∧ (PySem.W.plainOver K 516 = true) ∧ (PySem.W.findIn K (.ref 516) "__setattr__" = some (some (.builtin "object.__setattr__"))) ∧ (PySem.W.findIn K (.ref 516) "__class__" = some (some (.builtin "object.__class__"))) ∧ (PySem.W.mroIn K 516 (.type "object") = some true) ∧ (PySem.W.plainGet K 558 Str.empty = true) ∧ (PySem.W.hasDictIn K 558 = true) ∧ (PySem.W.plainOver K 558 = true) ∧ (PySem.W.findIn K (.ref 558) "__setattr__" = some (some (.builtin "object.__setattr__"))) ∧ (PySem.W.findIn K (.ref 558) "__class__" = some (some (.builtin "object.__class__"))) ∧ (PySem.W.mroIn K 558 (.type "object") = some true) ∧ (PySem.W.findIn K (.ref 558) "name" = some none)
def dQ13 (K : PySem.W.Frag) : Decidable (Q13 K) := inferInstance
abbrev Q14 (K : PySem.W.Frag) : Prop := (PySem.W.subIn K (.ref 558) (.ref 516) = some true) ∧ (PySem.W.plainGet K 591 Str.empty = true) ∧ (PySem.W.hasDictIn K 591 = true) ∧ (PySem.W.plainOver K 591 = true) ∧ (PySem.W.findIn K (.ref 591) "__setattr__" = some (some (.builtin "object.__setattr__"))) ∧ (PySem.W.findIn K (.ref 591) "__class__" = some (some (.builtin "object.__class__"))) ∧ (PySem.W.mroIn K 591 (.type "object") = some true) ∧ (PySem.W.findIn K (.ref 591) "value" = some none) ∧ (PySem.W.subIn K (.ref 591) (.ref 516) = some true) ∧ (PySem.W.plainGet K 631 Str.empty = true) ∧ (PySem.W.hasDictIn K 631 = true) ∧ (PySem.W.plainOver K 631 = true) ∧ (PySem.W.findIn K (.ref 631) "__setattr__" = some (some (.builtin "object.__setattr__"))) ∧ (PySem.W.findIn K (.ref 631) "__class__" = some (some (.builtin "object.__class__"))) ∧ (PySem.W.mroIn K 631 (.type "object") = some true) ∧ (PySem.W.findIn K (.ref 631) "tree" = some none) ∧ (PySem.W.findIn K (.ref 631) "span" = some none) ∧ (PySem.W.subIn K (.ref 631) (.ref 516) = some true) ∧ (PySem.W.plainGet K 671 Str.empty = true) ∧ (PySem.W.hasDictIn K 671 = true) ∧ (PySem.W.plainOver K 671 = true) ∧ (PySem.W.findIn K (.ref 671) "__setattr__" = some (some (.builtin "object.__setattr__"))) ∧ (PySem.W.findIn K (.ref 671) "__class__" = some (some (.builtin "object.__class__"))) ∧ (PySem.W.mroIn K 671 (.type "object") = some true)
def dQ14 (K : PySem.W.Frag) : Decidable (Q14 K) := inferInstance
abbrev Q15 (K : PySem.W.Frag) : Prop := (PySem.W.findIn K (.ref 671) "tree" = some none) ∧ (PySem.W.findIn K (.ref 671) "by" = some none) ∧ (PySem.W.subIn K (.ref 671) (.ref 516) = some true) ∧ (PySem.W.plainGet K 711 Str.empty = true) ∧ (PySem.W.hasDictIn K 711 = true) ∧ (PySem.W.plainOver K 711 = true) ∧ (PySem.W.findIn K (.ref 711) "__setattr__" = some (some (.builtin "object.__setattr__"))) ∧ (PySem.W.findIn K (.ref 711) "__class__" = some (some (.builtin "object.__class__"))) ∧ (PySem.W.mroIn K 711 (.type "object") = some true) ∧ (PySem.W.findIn K (.ref 711) "tree" = some none) ∧ (PySem.W.findIn K (.ref 711) "about" = some none) ∧ (PySem.W.subIn K (.ref 711) (.ref 516) = some true) ∧ (PySem.W.plainGet K 751 Str.empty = true) ∧ (PySem.W.hasDictIn K 751 = true) ∧ (PySem.W.plainOver K 751 = true) ∧ (PySem.W.findIn K (.ref 751) "__setattr__" = some (some (.builtin "object.__setattr__"))) ∧ (PySem.W.findIn K (.ref 751) "__class__" = some (some (.builtin "object.__class__"))) ∧ (PySem.W.mroIn K 751 (.type "object") = some true) ∧ (PySem.W.findIn K (.ref 751) "title" = some none) ∧ (PySem.W.findIn K (.ref 751) "one" = some none) ∧ (PySem.W.findIn K (.ref 751) "other" = some none) ∧ (PySem.W.subIn K (.ref 751) (.ref 516) = some true) ∧ (PySem.W.subIn K (.type "NoneType") (.ref 516) = some false) ∧ (PySem.W.subIn K (.type "str") (.ref 516) = some false)
def dQ15 (K : PySem.W.Frag) : Decidable (Q15 K) := inferInstance
abbrev Q16 (K : PySem.W.Frag) : Prop := (PySem.W.subIn K (.type "int") (.ref 516) = some false) ∧ (PySem.W.subIn K (.type "tuple") (.ref 516) = some false) ∧ (PySem.W.subIn K (.type "list") (.ref 516) = some false) ∧ (PySem.W.subIn K (.type "dict") (.ref 516) = some false) ∧ (PySem.W.subIn K (.type "bool") (.ref 516) = some false) ∧ (PySem.W.makesIn K 591 = true) ∧ (PySem.W.keepIn K (.ref 591) = true) ∧ (PySem.W.makesIn K 711 = true) ∧ (PySem.W.keepIn K (.ref 711) = true) ∧ (PySem.W.makesIn K 751 = true) ∧ (PySem.W.keepIn K (.ref 751) = true) ∧ (PySem.W.makesIn K 558 = true) ∧ (PySem.W.keepIn K (.ref 558) = true) ∧ (PySem.W.makesIn K 631 = true) ∧ (PySem.W.keepIn K (.ref 631) = true) ∧ (PySem.W.makesIn K 671 = true) ∧ (PySem.W.keepIn K (.ref 671) = true) ∧ (PySem.W.makesIn K 406 = true) ∧ (PySem.W.keepIn K (.ref 406) = true) ∧ (PySem.W.findIn K (.ref 406) "__init__" = some (some (.builtin "object.__init__"))) ∧ (PySem.W.makesIn K 382 = true) ∧ (PySem.W.keepIn K (.ref 382) = true) ∧ (PySem.W.findIn K (.ref 382) "__init__" = some (some (.builtin "object.__init__"))) ∧ (PySem.W.makesIn K 358 = true)
def dQ16 (K : PySem.W.Frag) : Decidable (Q16 K) := inferInstance
abbrev Q17 (K : PySem.W.Frag) : Prop := (PySem.W.keepIn K (.ref 358) = true) ∧ (PySem.W.findIn K (.ref 358) "__init__" = some (some (.builtin "object.__init__"))) ∧ (PySem.W.makesIn K 254 = true) ∧ (PySem.W.keepIn K (.ref 254) = true) ∧ (PySem.W.findIn K (.ref 254) "__init__" = some (some (.builtin "object.__init__"))) ∧ (PySem.W.makesIn K 432 = true) ∧ (PySem.W.keepIn K (.ref 432) = true) ∧ (PySem.W.findIn K (.ref 432) "__init__" = some (some (.builtin "object.__init__"))) ∧ (PySem.W.makesIn K 332 = true) ∧ (PySem.W.keepIn K (.ref 332) = true) ∧ (PySem.W.findIn K (.ref 332) "__init__" = some (some (.builtin "object.__init__"))) ∧ (PySem.W.makesIn K 280 = true) ∧ (PySem.W.keepIn K (.ref 280) = true) ∧ (PySem.W.findIn K (.ref 280) "__init__" = some (some (.builtin "object.__init__"))) ∧ (PySem.W.makesIn K 306 = true) ∧ (PySem.W.keepIn K (.ref 306) = true) ∧ (PySem.W.findIn K (.ref 306) "__init__" = some (some (.builtin "object.__init__"))) ∧ (PySem.W.findIn K (.ref 591) "limbs" = some (some (.ref 506))) ∧ (PySem.W.findIn K (.ref 591) "own_names" = some (some (.ref 513))) ∧ (PySem.W.findIn K (.ref 711) "own_names" = some (some (.ref 513))) ∧ (PySem.W.findIn K (.ref 751) "own_names" = some (some (.ref 513))) ∧ (PySem.W.findIn K (.ref 558) "limbs" = some (some (.ref 506))) ∧ (PySem.W.findIn K (.ref 631) "own_names" = some (some (.ref 513))) ∧ (PySem.W.findIn K (.ref 671) "own_names" = some (some (.ref 513)))
def dQ17 (K : PySem.W.Frag) : Decidable (Q17 K) := inferInstance
abbrev Q18 (K : PySem.W.Frag) : Prop := (FarH.noTab K = true)
def dQ18 (K : PySem.W.Frag) : Decidable (Q18 K) := inferInstance
def BQ (K : PySem.W.Frag) : Bool := @decide (Q0 K) (dQ0 K) && (@decide (Q1 K) (dQ1 K) && (@decide (Q2 K) (dQ2 K) && (@decide (Q3 K) (dQ3 K) && (@decide (Q4 K) (dQ4 K) && (@decide (Q5 K) (dQ5 K) && (@decide (Q6 K) (dQ6 K) && (@decide (Q7 K) (dQ7 K) && (@decide (Q8 K) (dQ8 K) && (@decide (Q9 K) (dQ9 K) && (@decide (Q10 K) (dQ10 K) && (@decide (Q11 K) (dQ11 K) && (@decide (Q12 K) (dQ12 K) && (@decide (Q13 K) (dQ13 K) && (@decide (Q14 K) (dQ14 K) && (@decide (Q15 K) (dQ15 K) && (@decide (Q16 K) (dQ16 K) && (@decide (Q17 K) (dQ17 K) && (@decide (Q18 K) (dQ18 K)))))))))))))))))))
def as0 : List Addr := [2, 3, 15, 22, 23, 24, 25, 28, 35, 36, 37, 40, 47, 48, 49, 52, 59, 60, 61, 64, 71, 72, 73, 76, 83, 84, 85, 88, 95, 96, 97, 100]
def as1 : List Addr := [107, 108, 109, 112, 119, 120, 121, 124, 131, 132, 133, 136, 143, 144, 145, 148, 155, 156, 157, 160, 167, 168, 169, 172, 179, 180, 181, 184, 191, 193, 194, 196]
def as2 : List Addr := [197, 198, 199, 200, 210, 212, 213, 215, 216, 217, 219, 220, 222, 223, 224, 225, 226, 227, 228, 231, 238, 240, 241, 243, 244, 245, 247, 248, 250, 251, 252, 253]
def as3 : List Addr := [254, 257, 264, 266, 267, 269, 270, 271, 273, 274, 276, 277, 278, 279, 280, 283, 290, 292, 293, 295, 296, 297, 299, 300, 302, 303, 304, 305, 306, 309, 316, 318]
def as4 : List Addr := [319, 321, 322, 323, 325, 326, 328, 329, 330, 331, 332, 335, 342, 344, 345, 347, 348, 349, 351, 352, 354, 355, 356, 357, 358, 361, 368, 371, 372, 373, 375, 376]
def as5 : List Addr := [378, 379, 380, 381, 382, 385, 392, 395, 396, 397, 399, 400, 402, 403, 404, 405, 406, 409, 416, 418, 419, 421, 422, 423, 425, 426, 428, 429, 430, 431, 432, 435]
def as6 : List Addr := [437, 438, 440, 441, 442, 444, 445, 447, 448, 449, 451, 452, 454, 455, 456, 459, 460, 461, 463, 464, 466, 467, 468, 470, 471, 473, 474, 475, 476, 479, 480, 481]
def as7 : List Addr := [484, 485, 486, 488, 489, 491, 492, 500, 502, 503, 505, 506, 507, 509, 510, 512, 513, 514, 515, 516, 517, 518, 521, 528, 530, 531, 533, 534, 535, 537, 538, 540]
def as8 : List Addr := [541, 542, 544, 545, 547, 548, 549, 551, 552, 554, 555, 556, 557, 558, 561, 568, 570, 571, 573, 574, 575, 577, 578, 580, 581, 582, 584, 585, 587, 588, 589, 590]
def as9 : List Addr := [591, 594, 601, 603, 604, 606, 607, 608, 610, 611, 613, 614, 615, 617, 618, 620, 621, 622, 624, 625, 627, 628, 629, 630, 631, 634, 641, 643, 644, 646, 647, 648]
def as10 : List Addr := [650, 651, 653, 654, 655, 657, 658, 660, 661, 662, 664, 665, 667, 668, 669, 670, 671, 674, 681, 683, 684, 686, 687, 688, 690, 691, 693, 694, 695, 697, 698, 700]
def as11 : List Addr := [701, 702, 704, 705, 707, 708, 709, 710, 711, 714, 721, 723, 724, 726, 727, 728, 730, 731, 733, 734, 735, 737, 738, 740, 741, 742, 744, 745, 747, 748, 749, 750]
def as12 : List Addr := [751, 754, 756, 757, 759, 760, 761, 763, 764, 766, 767, 768, 770, 771, 773, 774, 775, 777, 778, 780, 781, 782, 784, 785, 787, 788, 789, 791, 792, 794, 795, 796]
def as13 : List Addr := [798, 799, 801, 802, 803, 805, 806, 808, 809, 810, 812, 813, 815, 816, 817, 819, 820, 822, 823, 824, 826, 827, 829, 830, 831, 834, 835, 836, 838, 839, 841, 842]
def as14 : List Addr := [843, 845, 846, 848, 849, 850, 852, 853, 855, 856, 857, 860, 861, 862, 864, 865, 867, 868, 869, 871, 872, 874, 875, 876, 878, 879, 881, 882, 883, 885, 886, 888]
def as15 : List Addr := [889]
def asQ : List Addr := as0 ++ (as1 ++ (as2 ++ (as3 ++ (as4 ++ (as5 ++ (as6 ++ (as7 ++ (as8 ++ (as9 ++ (as10 ++ (as11 ++ (as12 ++ (as13 ++ (as14 ++ (as15)))))))))))))))
def nmQ0 : List Str := ["__name__", "FarError", "NoSpan", "NoValue", "NoPlace", "NoCount", "NoWheel", "NoRow", "NoWord", "NoWalker", "NoState", "NoName", "NoVersion", "NoTree", "TooMany", "NoText", "Rule", "Over", "Where", "Without"]
def nmQ1 : List Str := ["Sum", "Less", "Least", "Greatest", "Same", "all_rules", "rule_by", "is_place", "is_span", "has", "is_value", "SMALL", "MOST_LETTERS", "OWN_WORDS", "is_kept", "is_name", "need_fit", "Tree", "Named", "Flat"]
def nmQ2 : List Str := ["Only", "Shifted", "Flipped", "Joint", "all_parts", "names_in", "parts_in", "_law_cell", "_law_value", "_law_word_of", "_law_titles", "_law_names", "_law_near_span", "_law_tree", "_law_made", "_law_kinds", "_law_names_of", "_law_fields_right", "_law_odd_name", "_law_is_name"]
def nmQ3 : List Str := ["_law_wrong", "_law_deep_tree", "_law_twice_right"]
def nmQ : List Str := nmQ0 ++ (nmQ1 ++ (nmQ2 ++ (nmQ3)))
abbrev hkQ : PySem.W.Hook := FarH.hookQ asQ BQ fns
def obQ (s : PySem.W.SharedT) : FarH.AlQ := FarH.obsQ BQ fns (He.frG (HandSHeadRun.getT s) asQ)
set_option maxHeartbeats 0 in
theorem runQ (w : World) : HandSHeadRun.RunEq (PySem.W.OpenLaw.row PySem.Challenge.rw_farrows_k91_trees_made) (PySem.W.view (PySem.W.OpenLaw.row PySem.Challenge.rw_farrows_k91_trees_made).prog [68]) hkQ obQ 29706 nmQ w := by
  intro os
  kernel_rfl
end Far
namespace Far
open PySem L2 PySem.Spec PyProof.Rows
open Sem (wp)
abbrev KO := Option Int
def kL : KO → Leaf
  | none => .none
  | some i => .num i
theorem kL_inj {a b : KO} (h : kL a = kL b) : a = b := by
  cases a <;> cases b <;> simp [kL] at h ⊢
  exact h
def vO : KO → V
  | none => .non
  | some i => .int i
def isO : KO → Value → Bool
  | none, .none => true
  | some i, .int j _ => decide (j = i)
  | _, _ => false
theorem isO_leaf : ∀ {k : KO} {v : Value}, isO k v = true → Leaf.isOf (kL k) v = true
  | none, v, h => by cases v <;> first | rfl | exact absurd h Bool.false_ne_true
  | some i, v, h => by cases v <;> first | exact h | exact absurd h Bool.false_ne_true
/-- the kind of such keys -/
def oKind (P : Program) (w : World) : KeyKind P w KO where
  is := isO
  hash := fun k => (match k with | none => reduceHash 0xFCA86420 | some i => hashInt i)
  inj := fun v a b ha hb => kL_inj ((leafKind P w).inj v _ _ (isO_leaf ha) (isO_leaf hb))
  byValue := fun k v h => (leafKind P w).byValue (kL k) v (isO_leaf h)
  pyHash := fun {A E s k v Q} hv h => (leafKind P w).pyHash (k := kL k) (isO_leaf hv) (by
    cases k <;> exact h)
  eqBool := fun {A E s a b u v Q} hu hv h => (leafKind P w).eqBool (a := kL a) (b := kL b) (isO_leaf hu) (isO_leaf hv) (by
    have e : decide (kL a = kL b) = decide (a = b) := decide_eq_decide.mpr ⟨kL_inj, fun z => by rw [z]⟩
    rw [e]; exact h)
  «strs» := fun k x t v h => by cases k <;> exact absurd h Bool.false_ne_true
def encO (kvs : List (KO × KO)) : List (KO × V) := kvs.map fun p => (p.1, vO p.2)
def DP (a : Addr) (o : Obj) (kvs : List (KO × KO)) (h : Heap) : Prop :=
  h.get? a = some o ∧ kvs.length ≤ sizeLine ∧ (a == sysModules) = false ∧ ∃ vs, KV (encO kvs) vs ∧ ∀ P w, h.DictOf (oKind P w) a vs
/-- such a dict at a, its object o -/
abbrev DO (a : Addr) (o : Obj) (kvs : List (KO × KO)) : HO := .ext (DP a o kvs)
section
variable {X : Cx} {pins : List (Addr × Obj)} {σ : L2.St} {H : Hp} {s : Shared} {a : Addr} {A : Around} {E : Value → Shared → Prop} {kvs : List (KO × KO)} {ob : Obj}
end
section
variable {X : Cx} {o e f i value : Expr} {apos cpos pos pos' : Pos} {td ty tx tv : TE}
end
section
variable {P : Program} {w : World} {K : PySem.W.Frag} {d : Addr} {o : Obj} {es : Array DictEntry} {ep : Nat}
end
end Far
namespace Far
open PySem L2

/-- what a value is, without the heap -/
inductive D where
  | non | bl (b : Bool) | int (i : Int) | str (x : Str) | ty (n : String) | cls (a : Addr)
  | tup (xs : List D) | utp (xs : List D) | lst (xs : List D) | scr (xs : List D) | ins (C : Addr) (fs : List (Str × D)) | dK (kvs : List (Key × D)) | dP (kvs : List (Key × D)) | dO (kvs : List (KO × KO)) | exc (C : Addr) (fs : List (Str × D)) | lam (f c : Addr) (q : Str) (cvs : List V) (caps : List D)
/-- an exception object that was caught and is kept -/
def ExK (cls : Value) (d : Option Addr) (a : Addr) : HO := .ext fun h => ∃ (oe : Obj) (vs : Array Value), h.get? a = some oe ∧ Zc cls d oe ∧ oe.data = .fields vs

/-- a tuple at a that has no dict of its own -/
def SqP (K : PySem.W.Frag) (H : Hp) (a : Addr) (xs : List V) : Prop := (∃ o : Obj, H a = some (.frz o (.tup xs)) ∧ o.cls = .type "tuple" ∧ o.dict = none) ∨
  ∃ (o : Obj) (its : Array Value) (n : Nat), K.lookup a = some o ∧ o.cls = .type "tuple" ∧ o.dict = none ∧ o.data = .seq its n ∧ its.size ≤ sizeLine ∧ Vals xs its.toList
theorem SqP.t {K : PySem.W.Frag} {H : Hp} {a : Addr} {xs : List V} (h : SqP K H a xs) : SqT K H a xs := by
  rcases h with ⟨o, h, _⟩ | ⟨o, its, n, h1, h2, _, h3, h4, h5⟩
  · exact .inl (.inr ⟨o, h⟩)
  · exact .inr ⟨o, its, n, h1, h2, h3, h4, h5⟩
/-- a tuple just made -/
def NewT (H : Hp) (xs : List V) (Q : VK) : Prop := ∀ (p : Addr) (o : Obj), H p = none → o.cls = .type "tuple" → o.dict = none → Q (.ref p) (upd H p (.frz o (.tup xs)))
section
variable (K : PySem.W.Frag) (H : Hp)
mutual
/-- v lies in H as the data d -/
inductive Rp : D → V → Prop
  | non : Rp .non .non
  | bl {b} : Rp (.bl b) (.bl b)
  | int {i} : Rp (.int i) (.int i)
  | str {x} : Rp (.str x) (.str x)
  | ty {n} : Rp (.ty n) (.ty n)
  | cls {a} : Rp (.cls a) (.ref a)
  | tup {a vs xs} : SqP K H a vs → RpL xs vs → Rp (.tup xs) (.ref a)
  | utp {a vs xs} : SqT K H a vs → RpL xs vs → Rp (.utp xs) (.ref a)
  | lst {a vs xs} : H a = some (.lst vs) → RpL xs vs → Rp (.lst xs) (.ref a)
  | scr {a vs xs} : SqL K H a vs → RpL xs vs → Rp (.scr xs) (.ref a)
  | ins {a dx C fs gs} : H a = some (.ins C dx gs) → RpF fs gs → Rp (.ins C fs) (.ref a)
  | dK {a fs gs} : H a = some (.dK gs) → RpK fs gs → Rp (.dK fs) (.ref a)
  | dP {a o fs gs} : H a = some (.frz o (.dK gs)) → RpK fs gs → Rp (.dP fs) (.ref a)
  | dO {a ob kvs} : H a = some (DO a ob kvs) → Rp (.dO kvs) (.ref a)
  | exc0 {a C} : H a = some (ExK (.ref C) none a) → Rp (.exc C []) (.ref a)
  | exc1 {a C dd fs gs} : H a = some (ExK (.ref C) (some dd) a) → H dd = some (.xd gs) → RpF fs gs → fs ≠ [] → Rp (.exc C fs) (.ref a)
  | exo {a C} : H a = some (ExO (.ref C) a) → Rp (.exc C []) (.ref a)
  | lam {f c q cvs caps} : H c = some (LamX.CodeO c q) → RpL caps cvs → Rp (.lam f c q cvs caps) (.ref f)
inductive RpL : List D → List V → Prop
  | nil : RpL [] []
  | cons {x v xs vs} : Rp x v → RpL xs vs → RpL (x :: xs) (v :: vs)
inductive RpF : List (Str × D) → List (Str × V) → Prop
  | nil : RpF [] []
  | cons {f x v xs vs} : Rp x v → RpF xs vs → RpF ((f, x) :: xs) ((f, v) :: vs)
inductive RpK : List (Key × D) → List (Key × V) → Prop
  | nil : RpK [] []
  | cons {f x v xs vs} : Rp x v → RpK xs vs → RpK ((f, x) :: xs) ((f, v) :: vs)
end
end

/-- no table of code objects -/
def ntb : HO → Bool
  | .tbl _ => false | _ => true
/-- all of H stands in H'; tables may grow -/
structure Ex (H H' : Hp) : Prop where
  nt : ∀ a o, H a = some o → ntb o = true → H' a = some o
  tb : ∀ a ps, H a = some (.tbl ps) → ∃ ps', H' a = some (.tbl ps')
theorem Ex.app {H H' : Hp} (e : Ex H H') (a : Addr) (o : HO) (h : H a = some o) (n : ntb o = true := by exact rfl) : H' a = some o := e.nt a o h n
instance {H H' : Hp} : CoeFun (Ex H H') fun _ => ∀ (a : Addr) (o : HO) (_ : H a = some o) (_ : ntb o = true := by exact rfl), H' a = some o := ⟨@Ex.app H H'⟩
theorem Ex.of {H H' : Hp} (h : ∀ a o, H a = some o → H' a = some o) : Ex H H' := ⟨fun a o e _ => h a o e, fun a ps e => ⟨ps, h a _ e⟩⟩
theorem Ex.refl (H : Hp) : Ex H H := .of fun _ _ h => h
theorem Ex.trans {H H1 H2 : Hp} (a : Ex H H1) (b : Ex H1 H2) : Ex H H2 := ⟨fun x o h n => b.nt x o (a.nt x o h n) n, fun x ps h => by
  obtain ⟨ps', e⟩ := a.tb x ps h
  exact b.tb x ps' e⟩
theorem Ex.put {A H : Hp} {p : Addr} {u : HO} (e : Ex A H) (n : A p = none) : Ex A (upd H p u) := ⟨fun a o h k => by
  rw [upd_ne (ne_of_none h n)]; exact e.nt a o h k, fun a ps h => by
  rw [upd_ne (ne_of_none h n)]; exact e.tb a ps h⟩
theorem Ex.new {H : Hp} {p : Addr} {o : HO} (h : H p = none) : Ex H (upd H p o) := (Ex.refl H).put h
theorem Ex.lay {A H : Hp} {p : Addr} {u : HO} (e : Ex A H) (h : H p = some u) (n : ntb u = true := by exact rfl) : Ex (upd A p u) H := ⟨fun a o q k => by
  by_cases z : a = p
  · subst z; rw [upd_same] at q; cases q; exact h
  · rw [upd_ne z] at q; exact e.nt a o q k, fun a ps q => by
  by_cases z : a = p
  · subst z; rw [upd_same] at q; cases q; cases n
  · rw [upd_ne z] at q; exact e.tb a ps q⟩
/-- both grow by the same -/
theorem Ex.both {A H : Hp} {p : Addr} {u : HO} (e : Ex A H) : Ex (upd A p u) (upd H p u) := ⟨fun a o h k => by
  by_cases q : a = p
  · subst q; rw [upd_same] at h ⊢; exact h
  · rw [upd_ne q] at h ⊢; exact e.nt a o h k, fun a ps h => by
  by_cases q : a = p
  · subst q; rw [upd_same] at h ⊢; exact ⟨ps, h⟩
  · rw [upd_ne q] at h ⊢; exact e.tb a ps h⟩
theorem Ex.none {H H' : Hp} {p : Addr} (e : Ex H H') (h : H' p = none) : H p = none := by
  cases h1 : H p with
  | none => rfl
  | some o =>
    cases hn : ntb o with
    | true => rw [e.nt p o h1 hn] at h; cases h
    | false =>
      cases o with
      | tbl ps => obtain ⟨_, z⟩ := e.tb p ps h1; rw [z] at h; cases h
      | _ => cases hn
theorem Ex.rd {H H' : Hp} {a : Addr} {u : HO} (e : Ex H H') (h : Rd H a u) (n : ntb u = true := by exact rfl) : Rd H' a u := by
  rcases h with h | ⟨o, h⟩
  · exact Or.inl (e.nt a _ h n)
  · exact Or.inr ⟨o, e a _ h⟩
theorem Ex.l {K : PySem.W.Frag} {H H' : Hp} {a : Addr} {xs : List V} (e : Ex H H') (h : SqL K H a xs) : SqL K H' a xs := h.imp (fun z => e.rd z) id
theorem Ex.t {K : PySem.W.Frag} {H H' : Hp} {a : Addr} {xs : List V} (e : Ex H H') (h : SqT K H a xs) : SqT K H' a xs := h.imp (fun z => e.rd z) id
theorem Ex.p {K : PySem.W.Frag} {H H' : Hp} {a : Addr} {xs : List V} (e : Ex H H') (h : SqP K H a xs) : SqP K H' a xs := h.imp (fun ⟨o, h1, h2⟩ => ⟨o, e _ _ h1, h2⟩) id
section
variable {K : PySem.W.Frag} {H H' : Hp}
mutual
theorem Rp.mono (e : Ex H H') : ∀ {d v}, Rp K H d v → Rp K H' d v
  | _, _, .non => .non
  | _, _, .bl => .bl
  | _, _, .int => .int
  | _, _, .str => .str
  | _, _, .ty => .ty
  | _, _, .cls => .cls
  | _, _, .tup h r => .tup (e.p h) (RpL.mono e r)
  | _, _, .utp h r => .utp (e.t h) (RpL.mono e r)
  | _, _, .lst h r => .lst (e _ _ h) (RpL.mono e r)
  | _, _, .scr h r => .scr (e.l h) (RpL.mono e r)
  | _, _, .ins h r => .ins (e _ _ h) (RpF.mono e r)
  | _, _, .dK h r => .dK (e _ _ h) (RpK.mono e r)
  | _, _, .dP h r => .dP (e _ _ h) (RpK.mono e r)
  | _, _, .dO h => .dO (e _ _ h)
  | _, _, .exc0 h => .exc0 (e _ _ h)
  | _, _, .exc1 h h2 r n => .exc1 (e _ _ h) (e _ _ h2) (RpF.mono e r) n
  | _, _, .exo h => .exo (e _ _ h)
  | _, _, .lam h r => .lam (e _ _ h) (RpL.mono e r)
theorem RpL.mono (e : Ex H H') : ∀ {d v}, RpL K H d v → RpL K H' d v
  | _, _, .nil => .nil
  | _, _, .cons h r => .cons (Rp.mono e h) (RpL.mono e r)
theorem RpF.mono (e : Ex H H') : ∀ {d v}, RpF K H d v → RpF K H' d v
  | _, _, .nil => .nil
  | _, _, .cons h r => .cons (Rp.mono e h) (RpF.mono e r)
theorem RpK.mono (e : Ex H H') : ∀ {d v}, RpK K H d v → RpK K H' d v
  | _, _, .nil => .nil
  | _, _, .cons h r => .cons (Rp.mono e h) (RpK.mono e r)
end
theorem RpL.length : ∀ {xs : List D} {vs : List V}, RpL K H xs vs → xs.length = vs.length
  | _, _, .nil => rfl
  | _, _, .cons _ r => congrArg (· + 1) r.length
theorem RpL.get : ∀ {xs : List D} {vs : List V} {i : Nat} {x : D}, RpL K H xs vs → xs[i]? = some x → ∃ v, vs[i]? = some v ∧ Rp K H x v
  | _, _, _, _, .nil, h => by simp at h
  | _, _, 0, _, .cons h _, e => by simp at e; subst e; exact ⟨_, rfl, h⟩
  | _, _, i + 1, x, .cons _ r, e => RpL.get (i := i) r (by simpa using e)
theorem RpL.getV : ∀ {xs : List D} {vs : List V} {i : Nat} {v : V}, RpL K H xs vs → vs[i]? = some v → ∃ x, xs[i]? = some x ∧ Rp K H x v
  | _, _, _, _, .nil, h => by simp at h
  | _, _, 0, _, .cons h _, e => by simp at e; subst e; exact ⟨_, rfl, h⟩
  | _, _, i + 1, x, .cons _ r, e => RpL.getV (i := i) r (by simpa using e)
theorem RpL.append : ∀ {xs ys : List D} {vs us : List V}, RpL K H xs vs → RpL K H ys us → RpL K H (xs ++ ys) (vs ++ us)
  | _, _, _, _, .nil, s => s
  | _, _, _, _, .cons h r, s => .cons h (r.append s)
theorem RpL.drop : ∀ {xs : List D} {vs : List V} (n : Nat), RpL K H xs vs → RpL K H (xs.drop n) (vs.drop n)
  | _, _, 0, r => r
  | _, _, _ + 1, .nil => .nil
  | _, _, n + 1, .cons _ r => r.drop n
theorem RpL.take : ∀ {xs : List D} {vs : List V} (n : Nat), RpL K H xs vs → RpL K H (xs.take n) (vs.take n)
  | _, _, 0, _ => .nil
  | _, _, _ + 1, .nil => .nil
  | _, _, n + 1, .cons h r => .cons h (r.take n)
theorem RpL.set {x : D} {v : V} (h : Rp K H x v) : ∀ {xs : List D} {vs : List V} (i : Nat), RpL K H xs vs → RpL K H (xs.set i x) (vs.set i v)
  | _, _, _, .nil => .nil
  | _, _, 0, .cons _ r => .cons h r
  | _, _, i + 1, .cons g r => .cons g (r.set h i)
theorem RpF.lookup {f : Str} {x : D} : ∀ {fs : List (Str × D)} {gs : List (Str × V)}, RpF K H fs gs → fs.lookup f = some x → ∃ v, gs.lookup f = some v ∧ Rp K H x v
  | _, _, .nil, h => by simp at h
  | _, _, .cons (f := g) h r, e => by
    rw [List.lookup_cons] at e ⊢
    by_cases q : (f == g) = true
    · rw [q] at e ⊢; cases e; exact ⟨_, rfl, h⟩
    · have q' : (f == g) = false := by simpa using q
      rw [q'] at e ⊢; exact r.lookup e
theorem RpF.nolook {f : Str} : ∀ {fs : List (Str × D)} {gs : List (Str × V)}, RpF K H fs gs → fs.lookup f = none → gs.lookup f = none
  | _, _, .nil, h => rfl
  | _, _, .cons (f := g) h r, e => by
    rw [List.lookup_cons] at e ⊢
    by_cases q : (f == g) = true
    · rw [q] at e; cases e
    · have q' : (f == g) = false := by simpa using q
      rw [q'] at e ⊢; exact r.nolook e
end
/-- a field stored -/
def putD (f : Str) (x : D) : List (Str × D) → List (Str × D)
  | [] => [(f, x)]
  | (g, y) :: r => if g = f then (g, x) :: r else (g, y) :: putD f x r
section
variable {K : PySem.W.Frag} {H : Hp}
theorem RpF.put {f : Str} {x : D} {v : V} (h : Rp K H x v) : ∀ {fs : List (Str × D)} {gs : List (Str × V)}, RpF K H fs gs → RpF K H (putD f x fs) (putF f v gs)
  | _, _, .nil => .cons h .nil
  | _, _, .cons (f := g) (vs := vs) q r => by
    unfold putD putF
    by_cases e : g = f
    · rw [if_pos e, if_pos e]; exact .cons h r
    · rw [if_neg e, if_neg e]; exact .cons q (r.put h)
theorem RpF.length : ∀ {fs : List (Str × D)} {gs : List (Str × V)}, RpF K H fs gs → fs.length = gs.length
  | _, _, .nil => rfl
  | _, _, .cons _ r => congrArg (· + 1) r.length
end

/-- a slot told: nothing known; data that nobody changes; a list that this frame alone holds; an instance that it alone holds -/
inductive S where
  | un | d (x : D) | own (xs : List D) | okd (kvs : List (Key × D)) | oko (kvs : List (KO × KO)) | ob (q : Option Addr) (C : Addr) (fs : List (Str × D)) | ot (A xs B : List D)

/-- He: the heap at the entry; Ge: what of it was told as data; G: what is told as data now; H: the heap now -/
def SlotOk (K : PySem.W.Frag) (He G H : Hp) : S → Option V → Prop
  | .un, _ => True
  | .ot _ _ _, _ => True
  | .d x, o => ∃ v, o = some v ∧ Rp K G x v
  | .own xs, o => ∃ p vs, o = some (.ref p) ∧ He p = none ∧ G p = none ∧ H p = some (.lst vs) ∧ RpL K G xs vs
  | .okd kvs, o => ∃ p gs, o = some (.ref p) ∧ He p = none ∧ G p = none ∧ H p = some (.dK gs) ∧ RpK K G kvs gs
  | .oko kvs, o => ∃ p ob, o = some (.ref p) ∧ He p = none ∧ G p = none ∧ H p = some (DO p ob kvs)
  | .ob q C fs, o => ∃ a dx gs, o = some (.ref a) ∧ (∀ b, q = some b → a = b) ∧ He a = none ∧ G a = none ∧ He dx = none ∧ G dx = none ∧ H a = some (.ins C dx gs) ∧ H dx = some (.own a) ∧ RpF K G fs gs
def owned : S → Bool
  | .own _ => true | .okd _ => true | .oko _ => true | .ob _ _ _ => true | _ => false
def tabsGo (a : Addr) : PySem.W.Frag → List (Addr × Str)
  | (b, o) :: r => if b = a then (match o.cls, o.data with | .ref P, .fields vs => (match vs.toList with | .str q _ :: _ => (P, q) :: tabsGo a r | _ => tabsGo a r) | _, _ => tabsGo a r) else []
  | [] => []
def tabsK : PySem.W.Frag → List (Addr × Str)
  | (a, _) :: r => tabsGo a r
  | [] => []
def TabOk (K : PySem.W.Frag) (H G : Hp) : Prop := ∀ P ∈ tabsK K, ∃ ps, H P.1 = some (.tbl ps) ∧ TriplesOk ps.toList ∧ ∀ pos cv, codeAmong pos ps.toList = some cv → ∃ c, cv = .ref c ∧ G c = some (LamX.CodeO c P.2)
theorem TabOk.mono {K : PySem.W.Frag} {H G H' G' : Hp} (h : TabOk K H G) (k : ∀ P ps, H P = some (.tbl ps) → H' P = some (.tbl ps)) (g : Ex G G') : TabOk K H' G' := fun P hP => by
  obtain ⟨ps, h1, h2, h3⟩ := h P hP
  refine ⟨ps, k P.1 ps h1, h2, fun pos cv e => ?_⟩
  obtain ⟨c, e1, e2⟩ := h3 pos cv e
  exact ⟨c, e1, g c _ e2⟩
theorem TabOk.sub {K : PySem.W.Frag} {H G G' : Hp} (h : TabOk K H G) (g : ∀ c q, G c = some (LamX.CodeO c q) → G' c = some (LamX.CodeO c q)) : TabOk K H G' := fun P hP => by
  obtain ⟨ps, h1, h2, h3⟩ := h P hP
  refine ⟨ps, h1, h2, fun pos cv e => ?_⟩
  obtain ⟨c, e1, e2⟩ := h3 pos cv e
  exact ⟨c, e1, g c _ e2⟩
theorem TabOk.put {K : PySem.W.Frag} {H G G' : Hp} {p : Addr} {u : HO} (h : TabOk K H G) (n : ∀ ps, H p ≠ some (.tbl ps)) (g : Ex G G') : TabOk K (upd H p u) G' := h.mono (fun P ps e => by
  rw [upd_ne (fun z => n ps (by rw [← z]; exact e))]; exact e) g
theorem TabOk.new {K : PySem.W.Frag} {H G G' : Hp} {p : Addr} {u : HO} (h : TabOk K H G) (n : H p = none) (g : Ex G G') : TabOk K (upd H p u) G' := h.put (fun ps z => by rw [n] at z; cases z) g
/-- what was tracked and no data is no data still; the tables are in order, as they were -/
structure Nc (K : PySem.W.Frag) (He Ge H G : Hp) : Prop where
  nc : ∀ b, He b ≠ none → Ge b = none → G b = none
  t0 : TabOk K He Ge
  tb : TabOk K H G
instance {K : PySem.W.Frag} {He Ge H G : Hp} : CoeFun (Nc K He Ge H G) fun _ => ∀ b, He b ≠ none → Ge b = none → G b = none := ⟨fun h => h.nc⟩
/-- .. where the tables are in order behind it if they were ahead -/
structure Nw (K : PySem.W.Frag) (H G H' G' : Hp) : Prop where
  nc : ∀ b, H b ≠ none → G b = none → G' b = none
  tb : TabOk K H G → TabOk K H' G'
theorem Nw.refl {K : PySem.W.Frag} {H G : Hp} : Nw K H G H G := ⟨fun _ _ z => z, id⟩
theorem Nw.ok {K : PySem.W.Frag} {H G H' G' : Hp} (h : Nw K H G H' G') (t : TabOk K H G) : Nc K H G H' G' := ⟨h.nc, t, h.tb t⟩
structure OKG (K : PySem.W.Frag) (He Ge H G : Hp) (σ : St) (δ : List S) : Prop where
  ge : Ex Ge G
  gh : Ex G H
  he : Ex He H
  nc : Nc K He Ge H G
  sl : ∀ (i : Nat) (s : S), δ[i]? = some s → ∃ o, σ[i]? = some o ∧ SlotOk K He G H s o
  ne : ∀ (i j : Nat) (s t : S) (p : Addr), i ≠ j → δ[i]? = some s → δ[j]? = some t → owned s = true → owned t = true → σ[i]? = some (some (.ref p)) → σ[j]? = some (some (.ref p)) → False
def OK (K : PySem.W.Frag) (He Ge H : Hp) (σ : St) (δ : List S) : Prop := ∃ G, OKG K He Ge H G σ δ
theorem SlotOk.mono {K : PySem.W.Frag} {He G G' H H' : Hp} {s : S} {o : Option V} (e : Ex G G') (k : ∀ p u, He p = none → G p = none → H p = some u → ntb u = true → H' p = some u ∧ G' p = none) (h : SlotOk K He G H s o) : SlotOk K He G' H' s o := by
  cases s with
  | un => trivial
  | ot _ _ _ => trivial
  | d x => obtain ⟨v, e1, r⟩ := h; exact ⟨v, e1, r.mono e⟩
  | own xs =>
    obtain ⟨p, vs, e1, h1, h2, h3, r⟩ := h
    obtain ⟨k1, k2⟩ := k p _ h1 h2 h3 rfl
    exact ⟨p, vs, e1, h1, k2, k1, r.mono e⟩
  | okd xs =>
    obtain ⟨p, vs, e1, h1, h2, h3, r⟩ := h
    obtain ⟨k1, k2⟩ := k p _ h1 h2 h3 rfl
    exact ⟨p, vs, e1, h1, k2, k1, r.mono e⟩
  | oko xs =>
    obtain ⟨p, vs, e1, h1, h2, h3⟩ := h
    obtain ⟨k1, k2⟩ := k p _ h1 h2 h3 rfl
    exact ⟨p, vs, e1, h1, k2, k1⟩
  | ob q C fs =>
    obtain ⟨a, dx, gs, e1, hq, h1, h2, h3, h4, h5, h6, r⟩ := h
    obtain ⟨k1, k2⟩ := k a _ h1 h2 h5 rfl
    obtain ⟨k3, k4⟩ := k dx _ h3 h4 h6 rfl
    exact ⟨a, dx, gs, e1, hq, h1, k2, h3, k4, k1, k3, r.mono e⟩
section
variable {K : PySem.W.Frag} {He Ge H G : Hp} {σ : St} {δ : List S}
/-- the heap grows; G grows by what is new -/
theorem OKG.grow {H' G' : Hp} (h : OKG K He Ge H G σ δ) (e : Ex H H') (g : Ex G G') (gh : Ex G' H') (nc : Nc K H G H' G') : OKG K He Ge H' G' σ δ where
  ge := h.ge.trans g
  gh := gh
  he := h.he.trans e
  nc := ⟨fun b h1 h2 => nc b (fun q => h1 (h.he.none q)) (h.nc b h1 h2), h.nc.t0, nc.tb⟩
  sl := fun i s q => by
    obtain ⟨o, e1, k⟩ := h.sl i s q
    exact ⟨o, e1, k.mono g fun p u _ h2 h3 n => ⟨e.nt p u h3 n, nc p (by rw [h3]; exact fun z => nomatch z) h2⟩⟩
  ne := h.ne
/-- one more value on top -/
theorem OKG.push {s : S} {o : Option V} (h : OKG K He Ge H G σ δ) (k : SlotOk K He G H s o) (n : owned s = true → ∀ (j : Nat) (t : S) (p : Addr), o = some (.ref p) → δ[j]? = some t → owned t = true → σ[j]? = some (some (.ref p)) → False) : OKG K He Ge H G (o :: σ) (s :: δ) where
  ge := h.ge
  gh := h.gh
  he := h.he
  nc := h.nc
  sl := fun i t q => by
    cases i with
    | zero => simp at q; subst q; exact ⟨o, rfl, k⟩
    | succ i => simp at q; simpa using h.sl i t q
  ne := fun i j s' t p hij hi hj o1 o2 e1 e2 => by
    cases i with
    | zero =>
      cases j with
      | zero => exact hij rfl
      | succ j => simp at hi hj e1 e2; subst hi; exact n o1 j t p e1 hj o2 e2
    | succ i =>
      cases j with
      | zero => simp at hi hj e1 e2; subst hj; exact n o2 i s' p e2 hi o1 e1
      | succ j => simp at hi hj e1 e2; exact h.ne i j s' t p (fun z => hij (by rw [z])) hi hj o1 o2 e1 e2
theorem OKG.pop {s : S} {o : Option V} (h : OKG K He Ge H G (o :: σ) (s :: δ)) : OKG K He Ge H G σ δ where
  ge := h.ge
  gh := h.gh
  he := h.he
  nc := h.nc
  sl := fun i t q => by simpa using h.sl (i + 1) t (by simpa using q)
  ne := fun i j s' t p hij hi hj o1 o2 e1 e2 => h.ne (i + 1) (j + 1) s' t p (by omega) (by simpa using hi) (by simpa using hj) o1 o2 (by simpa using e1) (by simpa using e2)
theorem OKG.top {s : S} {o : Option V} (h : OKG K He Ge H G (o :: σ) (s :: δ)) : SlotOk K He G H s o := by
  obtain ⟨o', e, k⟩ := h.sl 0 s rfl
  cases e; exact k
theorem OKG.pushD {x : D} {v : V} (h : OKG K He Ge H G σ δ) (r : Rp K G x v) : OKG K He Ge H G (some v :: σ) (.d x :: δ) := h.push ⟨v, rfl, r⟩ fun z => nomatch z
/-- a new object that is data at once -/
theorem OKG.newG {p : Addr} {u : HO} (h : OKG K He Ge H G σ δ) (hp : H p = none) : OKG K He Ge (upd H p u) (upd G p u) σ δ := by
  have hg : G p = none := h.gh.none hp
  refine h.grow (.new hp) (.new hg) h.gh.both ⟨fun b h1 h2 => ?_, h.nc.tb, h.nc.tb.new hp (.new hg)⟩
  rw [upd_ne (fun q => h1 (by rw [q]; exact hp))]; exact h2
/-- a new object that is not told as data -/
theorem OKG.newH {p : Addr} {u : HO} (h : OKG K He Ge H G σ δ) (hp : H p = none) : OKG K He Ge (upd H p u) G σ δ :=
  h.grow (.new hp) (.refl G) (h.gh.trans (.new hp)) ⟨fun _ _ z => z, h.nc.tb, h.nc.tb.new hp (.refl G)⟩
/-- slots weaker: some forgotten -/
def weak : List S → List S → Prop := fun δ δ' => ∀ (i : Nat) (s : S), δ'[i]? = some s → δ[i]? = some s ∨ (s = .un ∧ ∃ t, δ[i]? = some t)
theorem OKG.weak {δ' : List S} (h : OKG K He Ge H G σ δ) (w : weak δ δ') : OKG K He Ge H G σ δ' where
  ge := h.ge
  gh := h.gh
  he := h.he
  nc := h.nc
  sl := fun i t q => by
    rcases w i t q with z | ⟨rfl, t, z⟩
    · exact h.sl i t z
    · obtain ⟨o, e, _⟩ := h.sl i t z
      exact ⟨o, e, trivial⟩
  ne := fun i j s' t p hij hi hj o1 o2 e1 e2 => by
    rcases w i _ hi with z | ⟨rfl, _, z⟩
    · rcases w j _ hj with z2 | ⟨rfl, _, z2⟩
      · exact h.ne i j s' t p hij z z2 o1 o2 e1 e2
      · cases o2
    · cases o1
theorem OKG.len (h : OKG K He Ge H G σ δ) : δ.length ≤ σ.length := by
  rcases Nat.lt_or_ge σ.length δ.length with q | q
  · obtain ⟨o, e, _⟩ := h.sl σ.length (δ[σ.length]) (List.getElem?_eq_getElem q)
    simp at e
  · exact q
/-- a slot is stored -/
theorem OKG.store {i : Nat} {s : S} {o : Option V} (h : OKG K He Ge H G (o :: σ) (s :: δ)) (hi : i < δ.length) : OKG K He Ge H G (σ.set i o) (δ.set i s) := by
  have hl : i < σ.length := Nat.lt_of_lt_of_le hi h.pop.len
  refine ⟨h.ge, h.gh, h.he, h.nc, fun j t q => ?_, fun j k s' t p hjk hj hk o1 o2 e1 e2 => ?_⟩
  · by_cases z : i = j
    · subst z
      rw [List.getElem?_set_self hi] at q; cases q
      rw [List.getElem?_set_self hl]
      exact ⟨o, rfl, h.top⟩
    · rw [List.getElem?_set_ne z] at q ⊢
      exact h.pop.sl j t q
  · by_cases z : i = j
    · subst z
      rw [List.getElem?_set_self hi] at hj; cases hj
      rw [List.getElem?_set_ne hjk] at hk e2
      rw [List.getElem?_set_self hl] at e1
      cases e1
      exact h.ne 0 (k + 1) s t p (by omega) rfl (by simpa using hk) o1 o2 rfl (by simpa using e2)
    · by_cases z2 : i = k
      · subst z2
        rw [List.getElem?_set_self hi] at hk; cases hk
        rw [List.getElem?_set_ne z] at hj e1
        rw [List.getElem?_set_self hl] at e2
        cases e2
        exact h.ne 0 (j + 1) s s' p (by omega) rfl (by simpa using hj) o2 o1 rfl (by simpa using e1)
      · rw [List.getElem?_set_ne z] at hj e1
        rw [List.getElem?_set_ne z2] at hk e2
        exact h.pop.ne j k s' t p hjk hj hk o1 o2 e1 e2
/-- the list on top is data from now on -/
theorem OKG.freezeX {xs : List D} {o : Option V} (h : OKG K He Ge H G (o :: σ) (.own xs :: δ)) : ∃ G', Ex G G' ∧ OKG K He Ge H G' (o :: σ) (.d (.lst xs) :: δ) := by
  obtain ⟨p, vs, rfl, h1, h2, h3, r⟩ := h.top
  refine ⟨upd G p (.lst vs), .new h2, OKG.push (OKG.mk ?_ ?_ h.he ⟨?_, h.nc.t0, h.nc.tb.mono (fun _ _ e => e) (.new h2)⟩ ?_ h.pop.ne) ⟨_, rfl, .lst upd_same (r.mono (.new h2))⟩ fun z => nomatch z⟩
  · exact h.ge.trans (.new h2)
  · refine ⟨fun a o e n => ?_, fun a ps e => ?_⟩
    · by_cases q : a = p
      · subst q; rw [upd_same] at e; cases e; exact h3
      · rw [upd_ne q] at e; exact h.gh.nt a o e n
    · by_cases q : a = p
      · subst q; rw [upd_same] at e; cases e
      · rw [upd_ne q] at e; exact h.gh.tb a ps e
  · intro b q1 q2
    have q : b ≠ p := fun z => q1 (by rw [z]; exact h1)
    rw [upd_ne q]; exact h.nc b q1 q2
  · intro i s q
    obtain ⟨o, e, k⟩ := h.pop.sl i s q
    refine ⟨o, e, ?_⟩
    cases s with
    | un => trivial
    | ot _ _ _ => trivial
    | d x => obtain ⟨v, e1, r'⟩ := k; exact ⟨v, e1, r'.mono (.new h2)⟩
    | own ys =>
      obtain ⟨p', vs', rfl, k1, k2, k3, r'⟩ := k
      have ne : p' ≠ p := fun z => h.ne 0 (i + 1) _ _ p (by omega) rfl (by simpa using q) rfl rfl rfl (by rw [← z]; simpa using e)
      exact ⟨p', vs', rfl, k1, by rw [upd_ne ne]; exact k2, k3, r'.mono (.new h2)⟩
    | okd ys =>
      obtain ⟨p', vs', rfl, k1, k2, k3, r'⟩ := k
      have ne : p' ≠ p := fun z => h.ne 0 (i + 1) _ _ p (by omega) rfl (by simpa using q) rfl rfl rfl (by rw [← z]; simpa using e)
      exact ⟨p', vs', rfl, k1, by rw [upd_ne ne]; exact k2, k3, r'.mono (.new h2)⟩
    | oko ys =>
      obtain ⟨p', vs', rfl, k1, k2, k3⟩ := k
      have ne : p' ≠ p := fun z => h.ne 0 (i + 1) _ _ p (by omega) rfl (by simpa using q) rfl rfl rfl (by rw [← z]; simpa using e)
      exact ⟨p', vs', rfl, k1, by rw [upd_ne ne]; exact k2, k3⟩
    | ob q C fs =>
      obtain ⟨a, dx, gs, rfl, kq, k1, k2, k3, k4, k5, k6, r'⟩ := k
      have n1 : a ≠ p := fun z => by rw [z, h3] at k5; cases k5
      have n2 : dx ≠ p := fun z => by rw [z, h3] at k6; cases k6
      exact ⟨a, dx, gs, rfl, kq, k1, by rw [upd_ne n1]; exact k2, k3, by rw [upd_ne n2]; exact k4, k5, k6, r'.mono (.new h2)⟩
theorem OKG.freeze {xs : List D} {o : Option V} (h : OKG K He Ge H G (o :: σ) (.own xs :: δ)) : ∃ G', OKG K He Ge H G' (o :: σ) (.d (.lst xs) :: δ) :=
  let ⟨G', _, k⟩ := h.freezeX; ⟨G', k⟩
/-- the dict on top is data from now on -/
theorem OKG.freezeK {xs : List (Key × D)} {o : Option V} (h : OKG K He Ge H G (o :: σ) (.okd xs :: δ)) : ∃ G', OKG K He Ge H G' (o :: σ) (.d (.dK xs) :: δ) := by
  obtain ⟨p, vs, rfl, h1, h2, h3, r⟩ := h.top
  refine ⟨upd G p (.dK vs), OKG.push (OKG.mk ?_ ?_ h.he ⟨?_, h.nc.t0, h.nc.tb.mono (fun _ _ e => e) (.new h2)⟩ ?_ h.pop.ne) ⟨_, rfl, .dK upd_same (r.mono (.new h2))⟩ fun z => nomatch z⟩
  · exact h.ge.trans (.new h2)
  · refine ⟨fun a o e n => ?_, fun a ps e => ?_⟩
    · by_cases q : a = p
      · subst q; rw [upd_same] at e; cases e; exact h3
      · rw [upd_ne q] at e; exact h.gh.nt a o e n
    · by_cases q : a = p
      · subst q; rw [upd_same] at e; cases e
      · rw [upd_ne q] at e; exact h.gh.tb a ps e
  · intro b q1 q2
    have q : b ≠ p := fun z => q1 (by rw [z]; exact h1)
    rw [upd_ne q]; exact h.nc b q1 q2
  · intro i s q
    obtain ⟨o, e, k⟩ := h.pop.sl i s q
    refine ⟨o, e, ?_⟩
    cases s with
    | un => trivial
    | ot _ _ _ => trivial
    | d x => obtain ⟨v, e1, r'⟩ := k; exact ⟨v, e1, r'.mono (.new h2)⟩
    | own ys =>
      obtain ⟨p', vs', rfl, k1, k2, k3, r'⟩ := k
      have ne : p' ≠ p := fun z => h.ne 0 (i + 1) _ _ p (by omega) rfl (by simpa using q) rfl rfl rfl (by rw [← z]; simpa using e)
      exact ⟨p', vs', rfl, k1, by rw [upd_ne ne]; exact k2, k3, r'.mono (.new h2)⟩
    | okd ys =>
      obtain ⟨p', vs', rfl, k1, k2, k3, r'⟩ := k
      have ne : p' ≠ p := fun z => h.ne 0 (i + 1) _ _ p (by omega) rfl (by simpa using q) rfl rfl rfl (by rw [← z]; simpa using e)
      exact ⟨p', vs', rfl, k1, by rw [upd_ne ne]; exact k2, k3, r'.mono (.new h2)⟩
    | oko ys =>
      obtain ⟨p', vs', rfl, k1, k2, k3⟩ := k
      have ne : p' ≠ p := fun z => h.ne 0 (i + 1) _ _ p (by omega) rfl (by simpa using q) rfl rfl rfl (by rw [← z]; simpa using e)
      exact ⟨p', vs', rfl, k1, by rw [upd_ne ne]; exact k2, k3⟩
    | ob q C fs =>
      obtain ⟨a, dx, gs, rfl, kq, k1, k2, k3, k4, k5, k6, r'⟩ := k
      have n1 : a ≠ p := fun z => by rw [z, h3] at k5; cases k5
      have n2 : dx ≠ p := fun z => by rw [z, h3] at k6; cases k6
      exact ⟨a, dx, gs, rfl, kq, k1, by rw [upd_ne n1]; exact k2, k3, by rw [upd_ne n2]; exact k4, k5, k6, r'.mono (.new h2)⟩
/-- the dict on top is data from now on -/
theorem OKG.freezeO {xs : List (KO × KO)} {o : Option V} (h : OKG K He Ge H G (o :: σ) (.oko xs :: δ)) : ∃ G', OKG K He Ge H G' (o :: σ) (.d (.dO xs) :: δ) := by
  obtain ⟨p, vs, rfl, h1, h2, h3⟩ := h.top
  refine ⟨upd G p (DO p vs xs), OKG.push (OKG.mk ?_ ?_ h.he ⟨?_, h.nc.t0, h.nc.tb.mono (fun _ _ e => e) (.new h2)⟩ ?_ h.pop.ne) ⟨_, rfl, .dO upd_same⟩ fun z => nomatch z⟩
  · exact h.ge.trans (.new h2)
  · refine ⟨fun a o e n => ?_, fun a ps e => ?_⟩
    · by_cases q : a = p
      · subst q; rw [upd_same] at e; cases e; exact h3
      · rw [upd_ne q] at e; exact h.gh.nt a o e n
    · by_cases q : a = p
      · subst q; rw [upd_same] at e; cases e
      · rw [upd_ne q] at e; exact h.gh.tb a ps e
  · intro b q1 q2
    have q : b ≠ p := fun z => q1 (by rw [z]; exact h1)
    rw [upd_ne q]; exact h.nc b q1 q2
  · intro i s q
    obtain ⟨o, e, k⟩ := h.pop.sl i s q
    refine ⟨o, e, ?_⟩
    cases s with
    | un => trivial
    | ot _ _ _ => trivial
    | d x => obtain ⟨v, e1, r'⟩ := k; exact ⟨v, e1, r'.mono (.new h2)⟩
    | own ys =>
      obtain ⟨p', vs', rfl, k1, k2, k3, r'⟩ := k
      have ne : p' ≠ p := fun z => h.ne 0 (i + 1) _ _ p (by omega) rfl (by simpa using q) rfl rfl rfl (by rw [← z]; simpa using e)
      exact ⟨p', vs', rfl, k1, by rw [upd_ne ne]; exact k2, k3, r'.mono (.new h2)⟩
    | okd ys =>
      obtain ⟨p', vs', rfl, k1, k2, k3, r'⟩ := k
      have ne : p' ≠ p := fun z => h.ne 0 (i + 1) _ _ p (by omega) rfl (by simpa using q) rfl rfl rfl (by rw [← z]; simpa using e)
      exact ⟨p', vs', rfl, k1, by rw [upd_ne ne]; exact k2, k3, r'.mono (.new h2)⟩
    | oko ys =>
      obtain ⟨p', vs', rfl, k1, k2, k3⟩ := k
      have ne : p' ≠ p := fun z => h.ne 0 (i + 1) _ _ p (by omega) rfl (by simpa using q) rfl rfl rfl (by rw [← z]; simpa using e)
      exact ⟨p', vs', rfl, k1, by rw [upd_ne ne]; exact k2, k3⟩
    | ob q C fs =>
      obtain ⟨a, dx, gs, rfl, kq, k1, k2, k3, k4, k5, k6, r'⟩ := k
      have n1 : a ≠ p := fun z => by rw [z, h3] at k5; cases k5
      have n2 : dx ≠ p := fun z => by rw [z, h3] at k6; cases k6
      exact ⟨a, dx, gs, rfl, kq, k1, by rw [upd_ne n1]; exact k2, k3, by rw [upd_ne n2]; exact k4, k5, k6, r'.mono (.new h2)⟩
/-- a list of one's own in slot i changes -/
theorem OKG.change {i : Nat} {xs ys : List D} {p : Addr} {vs us : List V} (h : OKG K He Ge H G σ δ) (hi : δ[i]? = some (.own xs)) (hp : σ[i]? = some (some (.ref p))) (hl : H p = some (.lst vs)) (r : RpL K G ys us) : OKG K He Ge (upd H p (.lst us)) G σ (δ.set i (.own ys)) := by
  obtain ⟨o, e, k⟩ := h.sl i _ hi
  obtain ⟨p', vs', e1, h1, h2, h3, r'⟩ := k
  rw [e] at hp
  cases hp
  cases e1
  have hlt : i < δ.length := (List.getElem?_eq_some_iff.mp hi).1
  refine ⟨h.ge, h.gh.put h2, h.he.put h1, ⟨h.nc, h.nc.t0, h.nc.tb.put (fun ps z => by rw [hl] at z; cases z) (.refl G)⟩, fun j t q => ?_, fun j k s' t p' hjk hj hk o1 o2 e1 e2 => ?_⟩
  · by_cases z : i = j
    · subst z
      rw [List.getElem?_set_self hlt] at q; cases q
      exact ⟨_, e, p, us, rfl, h1, h2, upd_same, r⟩
    · rw [List.getElem?_set_ne z] at q
      obtain ⟨o, eo, k⟩ := h.sl j t q
      refine ⟨o, eo, ?_⟩
      cases t with
      | un => trivial
      | ot _ _ _ => trivial
      | d x => exact k
      | own zs =>
        obtain ⟨p2, vs2, rfl, k1, k2, k3, r2⟩ := k
        have ne : p2 ≠ p := fun y => h.ne i j _ _ p z hi q rfl rfl e (by rw [← y]; exact eo)
        exact ⟨p2, vs2, rfl, k1, k2, by rw [upd_ne ne]; exact k3, r2⟩
      | okd zs =>
        obtain ⟨p2, vs2, rfl, k1, k2, k3, r2⟩ := k
        have ne : p2 ≠ p := fun y => h.ne i j _ _ p z hi q rfl rfl e (by rw [← y]; exact eo)
        exact ⟨p2, vs2, rfl, k1, k2, by rw [upd_ne ne]; exact k3, r2⟩
      | oko zs =>
        obtain ⟨p2, vs2, rfl, k1, k2, k3⟩ := k
        have ne : p2 ≠ p := fun y => h.ne i j _ _ p z hi q rfl rfl e (by rw [← y]; exact eo)
        exact ⟨p2, vs2, rfl, k1, k2, by rw [upd_ne ne]; exact k3⟩
      | ob q C fs =>
        obtain ⟨a, dx, gs, rfl, kq, k1, k2, k3, k4, k5, k6, r2⟩ := k
        have n1 : a ≠ p := fun y => by rw [y, hl] at k5; cases k5
        have n2 : dx ≠ p := fun y => by rw [y, hl] at k6; cases k6
        exact ⟨a, dx, gs, rfl, kq, k1, k2, k3, k4, by rw [upd_ne n1]; exact k5, by rw [upd_ne n2]; exact k6, r2⟩
  · have un : ∀ (m : Nat) (s : S), (δ.set i (.own ys))[m]? = some s → owned s = true → ∃ s2, δ[m]? = some s2 ∧ owned s2 = true := fun m s q q2 => by
      by_cases z : i = m
      · subst z; exact ⟨_, hi, rfl⟩
      · rw [List.getElem?_set_ne z] at q; exact ⟨s, q, q2⟩
    obtain ⟨s2, q1, q2⟩ := un j _ hj o1
    obtain ⟨t2, q3, q4⟩ := un k _ hk o2
    exact h.ne j k s2 t2 p' hjk q1 q3 q2 q4 e1 e2
end
end Far
namespace Far
open PySem L2

/-- what a def comes to: a value, or an exception of the class at c with fields -/
inductive Out where
  | ret (s : S) | exc (c : Addr) (fs : List (Str × D))
def XOk (K : PySem.W.Frag) (G H : Hp) (c : Addr) (fs : List (Str × D)) (cls : Value) (d : Option Addr) : Prop :=
  cls = .ref c ∧ ((fs = [] ∧ d = none) ∨ ∃ dd gs, d = some dd ∧ G dd = some (.xd gs) ∧ RpF K G fs gs ∧ fs ≠ [])
/-- a tuple that holds one list of one's own, between data -/
def OtOk (K : PySem.W.Frag) (He G H : Hp) (A xs B : List D) (v : V) : Prop := ∃ (p q : Addr) (vs us ws : List V), v = .ref p ∧ (He p = none ∧ ∃ o : Obj, H p = some (.frz o (.tup (vs ++ .ref q :: ws))) ∧ o.cls = .type "tuple" ∧ o.dict = none) ∧ RpL K G A vs ∧ RpL K G B ws ∧ He q = none ∧ G q = none ∧ H q = some (.lst us) ∧ RpL K G xs us
def OtI (K : PySem.W.Frag) (He G H : Hp) (v : V) : S → Prop
  | .ot A xs B => OtOk K He G H A xs B v | _ => True
def notOt : S → Bool
  | .ot _ _ _ => false | _ => true
theorem oti_of {K : PySem.W.Frag} {He G H : Hp} {v : V} {s : S} (h : notOt s = true) : OtI K He G H v s := by
  cases s with
  | ot A xs B => cases h
  | _ => trivial
def OKr (K : PySem.W.Frag) (He Ge H : Hp) (v : V) (σ : St) (s : S) (δ : List S) : Prop := ∃ G, OKG K He Ge H G (some v :: σ) (s :: δ) ∧ OtI K He G H v s
section
variable (K : PySem.W.Frag)
def EV (te : TE) (δ : List S) (s : S) : Prop := ∀ (He Ge H : Hp) (τo : St) (τs : List S) (σ : St), τo.length = τs.length → OK K He Ge H (τo ++ σ) (τs ++ δ) →
  ∀ Q : VK, (∀ v H', OK K He Ge H' (some v :: (τo ++ σ)) (s :: (τs ++ δ)) → Q v H') → te σ H Q
def EB (tt : TT) (δ : List S) (b : Bool) : Prop := ∀ (He Ge H : Hp) (τo : St) (τs : List S) (σ : St), τo.length = τs.length → OK K He Ge H (τo ++ σ) (τs ++ δ) →
  ∀ Q : Bool → Hp → Prop, (∀ H', OK K He Ge H' (τo ++ σ) (τs ++ δ) → Q b H') → tt σ H Q
def EA (ta : TA) (δ : List S) (xs : List D) : Prop := ∀ (He Ge H : Hp) (τo : St) (τs : List S) (σ : St), τo.length = τs.length → OK K He Ge H (τo ++ σ) (τs ++ δ) →
  ∀ Q : List V → Hp → Prop, (∀ vs H' G', OKG K He Ge H' G' (τo ++ σ) (τs ++ δ) → RpL K G' xs vs → Q vs H') → ta σ H Q
/-- a two-place operation on data -/
def RV2 (r : R2) (x y : D) (s : S) : Prop := ∀ (He Ge H G : Hp) (σ : St) (δ : List S) (v u : V), OKG K He Ge H G σ δ → Rp K G x v → Rp K G y u →
  ∀ Q : VK, (∀ z H', OK K He Ge H' (some z :: σ) (s :: δ) → Q z H') → r v u H Q
def RV1 (r : V → Hp → VK → Prop) (x : D) (s : S) : Prop := ∀ (He Ge H G : Hp) (σ : St) (δ : List S) (v : V), OKG K He Ge H G σ δ → Rp K G x v →
  ∀ Q : VK, (∀ z H', OK K He Ge H' (some z :: σ) (s :: δ) → Q z H') → r v H Q
def RVN (r : List V → Hp → VK → Prop) (xs : List D) (s : S) : Prop := ∀ (He Ge H G : Hp) (σ : St) (δ : List S) (vs : List V), OKG K He Ge H G σ δ → RpL K G xs vs →
  ∀ Q : VK, (∀ z H', OK K He Ge H' (some z :: σ) (s :: δ) → Q z H') → r vs H Q
/-- the iterator hands on the data xs, one by one, each of what stands or of what is new -/
def JIg (G : Hp) (J : It) (xs : List D) : Prop := ∀ H G1, Ex G G1 → Ex G1 H → (∀ i, i < xs.length → J.go i H) ∧ (∀ i x H', J.yld i H x H' → i < xs.length →
  ∃ G2 y, Ex H H' ∧ Ex G1 G2 ∧ Ex G2 H' ∧ Nw K H G1 H' G2 ∧ xs[i]? = some y ∧ Rp K G2 y x) ∧ ∀ i, xs.length ≤ i → J.stop i H
/-- the iterator hands on the values vs, one by one, wherever G stands -/
def JIs (G : Hp) (J : It) (vs : List V) : Prop := ∀ H, Ex G H → (∀ i, i < vs.length → J.go i H) ∧ (∀ i x H', J.yld i H x H' → H' = H ∧ (i < vs.length → vs[i]? = some x)) ∧ ∀ i, vs.length ≤ i → J.stop i H
def EI (wi : TI) (δ : List S) (xs : List D) : Prop := ∀ (He Ge H : Hp) (τo : St) (τs : List S) (σ : St), τo.length = τs.length → OK K He Ge H (τo ++ σ) (τs ++ δ) →
  ∀ R : It → Hp → Prop, (∀ J H' G', OKG K He Ge H' G' (τo ++ σ) (τs ++ δ) → JIg K G' J xs → R J H') → wi σ H R
/-- a target that takes x -/
def ET (g : TG) (δ : List S) (x : D) (δ' : List S) : Prop := ∀ (He Ge H G : Hp) (τo : St) (τs : List S) (σ : St) (v : V), τo.length = τs.length → OKG K He Ge H G (τo ++ σ) (τs ++ δ) → Rp K G x v →
  ∀ Q : St → Hp → Prop, (∀ σ', OKG K He Ge H G (τo ++ σ') (τs ++ δ') → Q σ' H) → g v σ H Q
abbrev NoS : List S → Prop := fun _ => False
/-- a statement over the slots δ: N the slots behind it, R what it hands back, B at a break, C at a continue, X what it raises -/
def SD (E : WX) (t : TS) (δ : List S) (N : List S → Prop) (R : S → List S → Prop) (B C : List S → Prop) (X : List S → Addr → List (Str × D) → Prop) : Prop := ∀ (He Ge H : Hp) (σ : St) (Dn : Ends), OK K He Ge H σ δ →
  (∀ δ' σ' H', OK K He Ge H' σ' δ' → N δ' → Dn.nx σ' H') → (∀ v s σ' δ' H', OKr K He Ge H' v σ' s δ' → R s δ' → Dn.rt v H') →
  (∀ δ' σ' H', OK K He Ge H' σ' δ' → B δ' → Dn.bk σ' H') → (∀ δ' σ' H', OK K He Ge H' σ' δ' → C δ' → Dn.ct σ' H') →
  (∀ c fs cls d G' σ' δ' H', OKG K He Ge H' G' σ' δ' → XOk K G' H' c fs cls d → X δ' c fs → E cls d σ' H') → t Dn σ H
/-- a def's promise told over data -/
def spD (R : List D → Out → Prop) : Sp := fun vs H Q E => ∃ G xs out, (Ex G H ∧ TabOk K H G) ∧ RpL K G xs vs ∧ R xs out ∧
  (∀ v s G' H', out = .ret s → Ex G G' → Ex G' H' → Ex H H' → Nc K H G H' G' → SlotOk K H G' H' s (some v) → OtI K H G' H' v s → Q v H') ∧
  (∀ c fs cls d G' H', out = .exc c fs → Ex G G' → Ex G' H' → Ex H H' → Nc K H G H' G' → XOk K G' H' c fs cls d → E cls d H')
end

section
variable {K : PySem.W.Frag} {δ : List S} {te ta tb : TE} {x y z : D} {s : S}
theorem len_append {α β : Type} {a : List α} {b : List β} {c : List α} {d : List β} (h : a.length = b.length) (i : Nat) : (b ++ d)[b.length + i]? = d[i]? ∧ (a ++ c)[b.length + i]? = c[i]? := by
  constructor
  · rw [List.getElem?_append_right (Nat.le_add_right _ _), Nat.add_sub_cancel_left]
  · rw [← h, List.getElem?_append_right (Nat.le_add_right _ _), Nat.add_sub_cancel_left]
theorem jig_of {G : Hp} {J : It} {xs : List D} {vs : List V} (r : RpL K G xs vs) (j : JIs G J vs) : JIg K G J xs := fun H G1 e1 e2 => by
  obtain ⟨j1, j2, j3⟩ := j H (e1.trans e2)
  have hl := r.length
  refine ⟨fun i hi => j1 i (by omega), fun i x H' hy hi => ?_, fun i hi => j3 i (by omega)⟩
  obtain ⟨rfl, k⟩ := j2 i x H' hy
  have ex := k (by omega)
  obtain ⟨y, ey, ry⟩ := r.getV ex
  exact ⟨G1, y, .refl _, .refl _, e2, .refl, ey, ry.mono e1⟩
theorem ev_var {i : Nat} (h : δ[i]? = some (.d x)) : EV K (tVar i) δ (.d x) := by
  intro He Ge H τo τs σ hl ⟨G, ok⟩ Q q
  obtain ⟨e1, e2⟩ := len_append (d := δ) (c := σ) hl i
  obtain ⟨o, eo, v, rfl, r⟩ := ok.sl (τs.length + i) _ (e1.trans h)
  exact ⟨v, e2.symm.trans eo, q v H ⟨G, ok.pushD r⟩⟩
theorem ev_rp {v : V} (r : ∀ G, Rp K G x v) : EV K (tC v) δ (.d x) := by
  intro He Ge H τo τs σ hl ⟨G, ok⟩ Q q
  exact q v H ⟨G, ok.pushD (r G)⟩
theorem ev_int {i : Int} : EV K (tC (.int i)) δ (.d (.int i)) := ev_rp fun _ => .int
theorem ev_bl {b : Bool} : EV K (tC (.bl b)) δ (.d (.bl b)) := ev_rp fun _ => .bl
theorem ev_non : EV K (tC .non) δ (.d .non) := ev_rp fun _ => .non
theorem ev_str {x : Str} : EV K (tC (.str x)) δ (.d (.str x)) := ev_rp fun _ => .str
theorem ev_ty {n : String} : EV K (tC (.ty n)) δ (.d (.ty n)) := ev_rp fun _ => .ty
theorem ev_cls {a : Addr} : EV K (tC (.ref a)) δ (.d (.cls a)) := ev_rp fun _ => .cls
theorem ev_is {s' : S} (h : EV K te δ s) (e : s = s') : EV K te δ s' := e ▸ h
theorem ev_frz {xs : List D} (h : EV K te δ (.own xs)) : EV K te δ (.d (.lst xs)) := by
  intro He Ge H τo τs σ hl ok Q q
  refine h He Ge H τo τs σ hl ok _ fun v H' ⟨G', ok'⟩ => ?_
  obtain ⟨G2, ok2⟩ := ok'.freeze
  exact q v H' ⟨G2, ok2⟩
theorem ev_frzK {kvs : List (Key × D)} (h : EV K te δ (.okd kvs)) : EV K te δ (.d (.dK kvs)) := by
  intro He Ge H τo τs σ hl ok Q q
  refine h He Ge H τo τs σ hl ok _ fun v H' ⟨G', ok'⟩ => ?_
  obtain ⟨G2, ok2⟩ := ok'.freezeK
  exact q v H' ⟨G2, ok2⟩
theorem ev_frzO {kvs : List (KO × KO)} (h : EV K te δ (.oko kvs)) : EV K te δ (.d (.dO kvs)) := by
  intro He Ge H τo τs σ hl ok Q q
  refine h He Ge H τo τs σ hl ok _ fun v H' ⟨G', ok'⟩ => ?_
  obtain ⟨G2, ok2⟩ := ok'.freezeO
  exact q v H' ⟨G2, ok2⟩
theorem ev_op {r : R2} (ha : EV K ta δ (.d x)) (hb : EV K tb δ (.d y)) (hr : RV2 K r x y s) : EV K (tOp r ta tb) δ s := by
  intro He Ge H τo τs σ hl ok Q q
  refine ha He Ge H τo τs σ hl ok _ fun v H1 ok1 => ?_
  refine hb He Ge H1 (some v :: τo) (.d x :: τs) σ (by simp [hl]) ok1 _ fun u H2 ok2 => ?_
  obtain ⟨G, ok2⟩ := ok2
  obtain ⟨_, e1, r1⟩ := ok2.top
  obtain ⟨_, e2, r2⟩ := ok2.pop.top
  cases e1; cases e2
  exact hr He Ge H2 G _ _ v u ok2.pop.pop r2 r1 Q q
theorem ev_un {r : V → Hp → VK → Prop} (ha : EV K ta δ (.d x)) (hr : RV1 K r x s) : EV K (tUn r ta) δ s := by
  intro He Ge H τo τs σ hl ok Q q
  refine ha He Ge H τo τs σ hl ok _ fun v H1 ⟨G, ok1⟩ => ?_
  obtain ⟨_, e1, r1⟩ := ok1.top
  cases e1
  exact hr He Ge H1 G _ _ v ok1.pop r1 Q q
theorem ea_nil : EA K tNil δ [] := by
  intro He Ge H τo τs σ hl ⟨G, ok⟩ Q q
  exact q [] H G ok .nil
theorem ea_cons {tr : TA} {xs : List D} (ha : EV K ta δ (.d x)) (hr : EA K tr δ xs) : EA K (tCons ta tr) δ (x :: xs) := by
  intro He Ge H τo τs σ hl ok Q q
  refine ha He Ge H τo τs σ hl ok _ fun v H1 ok1 => ?_
  refine hr He Ge H1 (some v :: τo) (.d x :: τs) σ (by simp [hl]) ok1 _ fun vs H2 G2 ok2 r2 => ?_
  obtain ⟨_, e1, r1⟩ := ok2.top
  cases e1
  exact q (v :: vs) H2 G2 ok2.pop (.cons r1 r2)
theorem ev_cb {r : List V → Hp → VK → Prop} {tr : TA} {xs : List D} (ha : EA K tr δ xs) (hr : RVN K r xs s) : EV K (tCB r tr) δ s := by
  intro He Ge H τo τs σ hl ok Q q
  exact ha He Ge H τo τs σ hl ok _ fun vs H1 G ok1 r1 => hr He Ge H1 G _ _ vs ok1 r1 Q q
variable {t u : TT} {a b : Bool}
theorem eb_test (h : EV K te δ (.d (.bl b))) : EB K (tTest te) δ b := by
  intro He Ge H τo τs σ hl ok Q q
  refine h He Ge H τo τs σ hl ok _ fun v H1 ⟨G, ok1⟩ => ?_
  obtain ⟨_, e1, r1⟩ := ok1.top
  cases e1; cases r1
  exact ⟨b, rfl, q H1 ⟨G, ok1.pop⟩⟩
theorem eb_and (h1 : EB K t δ a) (h2 : a = true → EB K u δ b) : EB K (tAnd t u) δ (a && b) := by
  intro He Ge H τo τs σ hl ok Q q
  refine h1 He Ge H τo τs σ hl ok _ fun H1 ok1 => ?_
  cases a with
  | true => exact iteT (h2 rfl He Ge H1 τo τs σ hl ok1 Q q)
  | false => exact iteF (q H1 ok1)
theorem eb_or (h1 : EB K t δ a) (h2 : a = false → EB K u δ b) : EB K (tOr t u) δ (a || b) := by
  intro He Ge H τo τs σ hl ok Q q
  refine h1 He Ge H τo τs σ hl ok _ fun H1 ok1 => ?_
  cases a with
  | true => exact iteT (q H1 ok1)
  | false => exact iteF (h2 rfl He Ge H1 τo τs σ hl ok1 Q q)
theorem eb_not (h1 : EB K t δ a) : EB K (tNot t) δ (!a) := by
  intro He Ge H τo τs σ hl ok Q q
  exact h1 He Ge H τo τs σ hl ok _ fun H1 ok1 => q H1 ok1
theorem eb_is (h : EB K t δ a) (e : a = b) : EB K t δ b := e ▸ h
/-- a test whose value alone is asked in one way (short) -/
theorem eb_andF (h1 : EB K t δ false) : EB K (tAnd t u) δ false := eb_and (b := false) h1 fun z => nomatch z
theorem eb_orT (h1 : EB K t δ true) : EB K (tOr t u) δ true := eb_or (b := false) h1 fun z => nomatch z
/-- (a, b, ..) -/
def tTupP (t : TA) : TE := fun σ H Q => t σ H fun xs H1 => xs.length ≤ sizeLine ∧ NewT H1 xs Q
theorem ev_tup {tr : TA} {xs : List D} (h : EA K tr δ xs) (hz : xs.length ≤ sizeLine) : EV K (tTupP tr) δ (.d (.tup xs)) := by
  intro He Ge H τo τs σ hl ok Q q
  refine h He Ge H τo τs σ hl ok _ fun vs H1 G ok1 r1 => ⟨by rw [← r1.length]; exact hz, fun p o hp hc hd => ?_⟩
  exact q _ _ ⟨_, (ok1.newG hp).pushD (.tup (.inl ⟨o, upd_same, hc, hd⟩) (r1.mono (.new (ok1.gh.none hp))))⟩
theorem OKG.newOwn {He Ge H G : Hp} {σ : St} {δ : List S} {p : Addr} {xs : List D} {vs : List V} (ok : OKG K He Ge H G σ δ) (hp : H p = none) (r : RpL K G xs vs) : OKG K He Ge (upd H p (.lst vs)) G (some (.ref p) :: σ) (.own xs :: δ) := by
  refine (ok.newH hp).push ⟨p, vs, rfl, ok.he.none hp, ok.gh.none hp, upd_same, r⟩ fun _ j t p' e hj ho eσ => ?_
  cases e
  obtain ⟨o, eo, k⟩ := ok.sl j t hj
  rw [eo] at eσ
  cases eσ
  cases t with
  | un => cases ho
  | ot _ _ _ => cases ho
  | d x => cases ho
  | own ys => obtain ⟨p', vs', e, _, _, h3, _⟩ := k; cases e; rw [hp] at h3; cases h3
  | okd ys => obtain ⟨p', vs', e, _, _, h3, _⟩ := k; cases e; rw [hp] at h3; cases h3
  | oko ys => obtain ⟨p', vs', e, _, _, h3⟩ := k; cases e; rw [hp] at h3; cases h3
  | ob q C fs => obtain ⟨a, dx, gs, e, _, _, _, _, _, h5, _⟩ := k; cases e; rw [hp] at h5; cases h5
theorem ev_lst {tr : TA} {xs : List D} (h : EA K tr δ xs) (hz : xs.length ≤ sizeLine) : EV K (tLst tr) δ (.own xs) := by
  intro He Ge H τo τs σ hl ok Q q
  refine h He Ge H τo τs σ hl ok _ fun vs H1 G ok1 r1 => ⟨by rw [← r1.length]; exact hz, fun p hp => ?_⟩
  exact q _ _ ⟨_, ok1.newOwn hp r1⟩
theorem ev_call {R : List D → Out → Prop} {E : XK} {tr : TA} {xs : List D} (h : EA K tr δ xs) (hr : R xs (.ret s)) : EV K (tCall (spD K R) [] E tr) δ s := by
  intro He Ge H τo τs σ hl ok Q q
  refine h He Ge H τo τs σ hl ok _ fun vs H1 G ok1 r1 => ?_
  refine ⟨G, xs, .ret s, ⟨ok1.gh, ok1.nc.tb⟩, by simpa using r1, hr, fun v s' G' H' e g1 g2 g3 nc k _ => ?_, fun c fs cls d G' H' e => nomatch e⟩
  cases e
  refine q v H' ⟨G', (ok1.grow g3 g1 g2 nc).push ?_ fun ho j t p e hj hoj eσ => ?_⟩
  · cases s with
    | un => trivial
    | ot _ _ _ => trivial
    | d x => exact k
    | own ys => obtain ⟨p, us, e, h1, h2, h3, r⟩ := k; exact ⟨p, us, e, ok1.he.none h1, h2, h3, r⟩
    | okd ys => obtain ⟨p, us, e, h1, h2, h3, r⟩ := k; exact ⟨p, us, e, ok1.he.none h1, h2, h3, r⟩
    | oko ys => obtain ⟨p, us, e, h1, h2, h3⟩ := k; exact ⟨p, us, e, ok1.he.none h1, h2, h3⟩
    | ob q C fs => obtain ⟨a, dx, gs, e, hq, h1, h2, h3, h4, h5, h6, r⟩ := k; exact ⟨a, dx, gs, e, hq, ok1.he.none h1, h2, ok1.he.none h3, h4, h5, h6, r⟩
  · cases e
    have hn : H1 p = none := by
      cases s with
      | un => cases ho
      | ot _ _ _ => cases ho
      | d x => cases ho
      | own ys => obtain ⟨p', us, e, h1, _⟩ := k; cases e; exact h1
      | okd ys => obtain ⟨p', us, e, h1, _⟩ := k; cases e; exact h1
      | oko ys => obtain ⟨p', us, e, h1, _⟩ := k; cases e; exact h1
      | ob q C fs => obtain ⟨a, dx, gs, e, _, h1, _⟩ := k; cases e; exact h1
    obtain ⟨o, eo, k2⟩ := ok1.sl j t hj
    rw [eo] at eσ
    cases eσ
    cases t with
    | un => cases hoj
    | ot _ _ _ => cases hoj
    | d x => cases hoj
    | own ys => obtain ⟨p', vs', e, _, _, h3, _⟩ := k2; cases e; rw [hn] at h3; cases h3
    | okd ys => obtain ⟨p', vs', e, _, _, h3, _⟩ := k2; cases e; rw [hn] at h3; cases h3
    | oko ys => obtain ⟨p', vs', e, _, _, h3⟩ := k2; cases e; rw [hn] at h3; cases h3
    | ob q C fs => obtain ⟨a, dx, gs, e, _, _, _, _, _, h5, _⟩ := k2; cases e; rw [hn] at h5; cases h5
theorem set_off {α : Type} (a b : List α) (i : Nat) (o : α) : (a ++ b).set (a.length + i) o = a ++ b.set i o := by
  rw [List.set_append_right _ _ (Nat.le_add_right _ _), Nat.add_sub_cancel_left]
theorem et_name {i : Nat} (hi : i < δ.length) : ET K (gName i) δ x (δ.set i (.d x)) := by
  intro He Ge H G τo τs σ v hl ok r Q q
  refine q _ ?_
  have k := (ok.pushD r).store (i := τs.length + i) (by rw [List.length_append]; omega)
  rw [set_off τs, ← hl, set_off τo] at k
  exact k
end
end Far
namespace Far
open PySem L2
section
variable {K : PySem.W.Frag} {δ : List S} {te ta tb : TE} {x y z : D} {s : S} {xs : List D}
theorem ei_list (h : EV K te δ (.d (.lst xs))) : EI K (iList K te) δ xs := by
  intro He Ge H τo τs σ hl ok R q
  refine h He Ge H τo τs σ hl ok _ fun v H1 ⟨G, ok1⟩ => ?_
  obtain ⟨_, e1, r1⟩ := ok1.top
  cases e1
  cases r1 with
  | lst hp r =>
    exact ⟨_, rfl, ⟨_, SqL.of (ok1.gh _ _ hp)⟩, q _ H1 G ok1.pop (jig_of r fun H e => ⟨fun i hi => ⟨_, _, SqL.of (e _ _ hp), List.getElem?_eq_getElem hi⟩, fun i x H' q => ⟨q.1, fun hi => q.2 _ (SqL.of (e _ _ hp))⟩, fun i hi => ⟨_, SqL.of (e _ _ hp), hi⟩⟩)⟩
theorem ei_tup (h : EV K te δ (.d (.tup xs))) : EI K (iTup K te) δ xs := by
  intro He Ge H τo τs σ hl ok R q
  refine h He Ge H τo τs σ hl ok _ fun v H1 ⟨G, ok1⟩ => ?_
  obtain ⟨_, e1, r1⟩ := ok1.top
  cases e1
  cases r1 with
  | tup hp r =>
    have hp := hp.t
    exact ⟨_, rfl, ⟨_, ok1.gh.t hp⟩, q _ H1 G ok1.pop (jig_of r fun H e => ⟨fun i hi => ⟨_, _, e.t hp, List.getElem?_eq_getElem hi⟩, fun i x H' q => ⟨q.1, fun hi => q.2 _ (e.t hp)⟩, fun i hi => ⟨_, e.t hp, hi⟩⟩)⟩
/-- lo, lo + 1, .. -/
def rg (lo : Int) (n : Nat) : List D := (List.range n).map fun (i : Nat) => D.int (lo + (i : Int))
def rgV (lo : Int) (n : Nat) : List V := (List.range n).map fun (i : Nat) => V.int (lo + (i : Int))
theorem rp_ints {G : Hp} {α : Type} (f : α → Int) : ∀ l : List α, RpL K G (l.map fun i => D.int (f i)) (l.map fun i => V.int (f i))
  | [] => .nil
  | _ :: r => .cons .int (rp_ints f r)
theorem jis_rng {G : Hp} {lo : Int} {n : Nat} : JIs G (Itr lo n) (rgV lo n) := fun H e =>
  ⟨fun i hi => by show i < n; simpa [rgV] using hi, fun i x H' q => ⟨q.1, fun hi => by
    have hi' : i < n := by simpa [rgV] using hi
    rw [q.2]; unfold rgV; rw [List.getElem?_map, List.getElem?_range hi']; rfl⟩, fun i hi => by show n ≤ i; simpa [rgV] using hi⟩
theorem ei_is {wi : TI} {ys : List D} (h : EI K wi δ xs) (e : xs = ys) : EI K wi δ ys := e ▸ h

end
inductive ETs (K : PySem.W.Frag) : TGs → List S → List D → List S → Prop
  | nil {δ : List S} : ETs K gNil δ [] δ
  | cons {g : TG} {gs : TGs} {δ : List S} {x : D} {xs : List D} {δ1 δ2 : List S} : ET K g δ x δ1 → ETs K gs δ1 xs δ2 → ETs K (gCons g gs) δ (x :: xs) δ2
section
variable {K : PySem.W.Frag} {δ : List S} {te ta tb : TE} {x y z : D} {s : S} {xs : List D}
theorem ets_run {gs : TGs} {δ δ' : List S} {xs : List D} (h : ETs K gs δ xs δ') : ∀ (He Ge H G : Hp) (τo : St) (τs : List S) (σ : St) (vs : List V), τo.length = τs.length → OKG K He Ge H G (τo ++ σ) (τs ++ δ) → RpL K G xs vs →
    ∀ Q : St → Hp → Prop, (∀ σ', OKG K He Ge H G (τo ++ σ') (τs ++ δ') → Q σ' H) → gs vs σ H Q := by
  induction h with
  | nil => intro He Ge H G τo τs σ vs hl ok r Q q; cases r; exact ⟨rfl, q σ ok⟩
  | cons h1 _ ih =>
    intro He Ge H G τo τs σ vs hl ok r Q q
    cases r with
    | cons r1 r2 => exact ⟨_, _, rfl, h1 He Ge H G τo τs σ _ hl ok r1 _ fun σ' ok' => ih He Ge H G τo τs σ' _ hl ok' r2 Q q⟩
theorem et_tup {n : Nat} {gs : TGs} {δ' : List S} (h : ETs K gs δ xs δ') (hn : xs.length = n) : ET K (gTup K n gs) δ (.tup xs) δ' := by
  intro He Ge H G τo τs σ v hl ok r Q q
  cases r with
  | tup hp r => exact ⟨_, _, rfl, ok.gh.t hp.t, by rw [← r.length]; exact hn, ets_run h He Ge H G τo τs σ _ hl ok r Q q⟩
theorem et_utp {n : Nat} {gs : TGs} {δ' : List S} (h : ETs K gs δ xs δ') (hn : xs.length = n) : ET K (gTup K n gs) δ (.utp xs) δ' := by
  intro He Ge H G τo τs σ v hl ok r Q q
  cases r with
  | utp hp r => exact ⟨_, _, rfl, ok.gh.t hp, by rw [← r.length]; exact hn, ets_run h He Ge H G τo τs σ _ hl ok r Q q⟩
theorem et_lst {n : Nat} {gs : TGs} {δ' : List S} (h : ETs K gs δ xs δ') (hn : xs.length = n) : ET K (gLst K n gs) δ (.lst xs) δ' := by
  intro He Ge H G τo τs σ v hl ok r Q q
  cases r with
  | lst hp r => exact ⟨_, _, rfl, SqL.of (ok.gh _ _ hp), by rw [← r.length]; exact hn, ets_run h He Ge H G τo τs σ _ hl ok r Q q⟩

theorem wipe_get {σ : St} : ∀ (vs : List Nat) (j : Nat), (wipe σ vs)[j]? = if j ∈ vs ∧ j < σ.length then some none else σ[j]?
  | [], j => by simp [wipe]
  | v :: vs, j => by
    unfold wipe
    by_cases h : v = j
    · subst h
      by_cases hl : v < σ.length
      · rw [List.getElem?_set_self (by rw [wipe_length]; exact hl)]; simp [hl]
      · rw [List.getElem?_eq_none (by rw [List.length_set, wipe_length]; omega)]
        simp [hl]
    · rw [List.getElem?_set_ne h, wipe_get vs j]
      have : j ∈ v :: vs ↔ j ∈ vs := by simp [Ne.symm h]
      simp only [this]
theorem wipe_set {σ : St} {i : Nat} {o : Option V} {vs : List Nat} (h : i ∈ vs) : wipe (σ.set i o) vs = wipe σ vs := by
  apply List.ext_getElem?
  intro j
  rw [wipe_get, wipe_get, List.length_set]
  by_cases hj : j ∈ vs ∧ j < σ.length
  · rw [if_pos hj, if_pos hj]
  · rw [if_neg hj, if_neg hj]
    by_cases e : i = j
    · subst e
      have hl : ¬ i < σ.length := fun q => hj ⟨h, q⟩
      rw [List.getElem?_eq_none (by rw [List.length_set]; omega), List.getElem?_eq_none (by omega)]
    · rw [List.getElem?_set_ne e]
theorem wipe_wipe {σ : St} {vs : List Nat} : wipe (wipe σ vs) vs = wipe σ vs := by
  apply List.ext_getElem?
  intro j
  rw [wipe_get, wipe_length]
  by_cases hj : j ∈ vs ∧ j < σ.length
  · rw [if_pos hj, wipe_get, if_pos hj]
  · rw [if_neg hj]
/-- a target that stores in vs alone -/
def GOk (g : TG) (vs : List Nat) : Prop := ∀ v σ H Q, g v σ H Q → g v σ H fun σ' H' => wipe σ' vs = wipe σ vs ∧ Q σ' H'
theorem gok_name {i : Nat} {vs : List Nat} (h : i ∈ vs) : GOk (gName i) vs := fun v σ H Q q => ⟨wipe_set h, q⟩
def GsOk (g : TGs) (vs : List Nat) : Prop := ∀ v σ H Q, g v σ H Q → g v σ H fun σ' H' => wipe σ' vs = wipe σ vs ∧ Q σ' H'
theorem gsok_nil {vs : List Nat} : GsOk gNil vs := fun v σ H Q q => ⟨q.1, rfl, q.2⟩
theorem gsok_name {i : Nat} {gs : TGs} {vs : List Nat} (h : i ∈ vs) (h2 : GsOk gs vs) : GsOk (gCons (gName i) gs) vs := fun v σ H Q ⟨a, r, e, q⟩ => ⟨a, r, e, by
  have z := h2 r (σ.set i (some a)) H Q q
  rw [wipe_set h] at z
  exact z⟩
/-- what a comprehension's block sees of the slots -/
def hideS : S → S
  | .own _ => .un | .okd _ => .un | .oko _ => .un | .ob _ _ _ => .un | .ot _ _ _ => .un | s => s
def hide (δ : List S) (vs : List Nat) : List S := vs.foldr (fun v δ => δ.set v .un) (δ.map hideS)
theorem hide_len (δ : List S) : ∀ vs : List Nat, (hide δ vs).length = δ.length
  | [] => by simp [hide]
  | v :: vs => by show ((hide δ vs).set v .un).length = _; rw [List.length_set, hide_len δ vs]
theorem hide_get (δ : List S) : ∀ (vs : List Nat) (j : Nat) (s : S), (hide δ vs)[j]? = some s → (s = .un ∧ j < δ.length) ∨ (j ∉ vs ∧ owned s = false ∧ δ[j]? = some s)
  | [], j, s, h => by
    simp only [hide, List.foldr_nil, List.getElem?_map, Option.map_eq_some_iff] at h
    obtain ⟨t, e, rfl⟩ := h
    have hl : j < δ.length := (List.getElem?_eq_some_iff.mp e).1
    cases t with
    | un => exact .inl ⟨rfl, hl⟩
    | d x => exact .inr ⟨by simp, rfl, e⟩
    | own xs => exact .inl ⟨rfl, hl⟩
    | ot A xs B => exact .inl ⟨rfl, hl⟩
    | okd xs => exact .inl ⟨rfl, hl⟩
    | oko xs => exact .inl ⟨rfl, hl⟩
    | ob q C fs => exact .inl ⟨rfl, hl⟩
  | v :: vs, j, s, h => by
    have h' : ((hide δ vs).set v .un)[j]? = some s := h
    by_cases e : v = j
    · subst e
      have hl : v < (hide δ vs).length := by
        have := (List.getElem?_eq_some_iff.mp h').1
        rwa [List.length_set] at this
      rw [List.getElem?_set_self hl] at h'
      cases h'
      exact .inl ⟨rfl, by rwa [hide_len] at hl⟩
    · rw [List.getElem?_set_ne e] at h'
      rcases hide_get δ vs j s h' with z | ⟨z1, z2⟩
      · exact .inl z
      · exact .inr ⟨by simp [z1, Ne.symm e], z2⟩
/-- the block's own view stands beside the def's -/
theorem OKG.block {He Ge H G : Hp} {τo : St} {τs : List S} {σ : St} {vs : List Nat} (ok : OKG K He Ge H G (τo ++ σ) (τs ++ δ)) (hl : τo.length = τs.length) : OKG K He Ge H G ((τo ++ σ) ++ wipe σ vs) ((τs ++ (δ ++ List.replicate (σ.length - δ.length) .un)) ++ hide δ vs) := by
  have hd : δ.length ≤ σ.length := by have := ok.len; simp only [List.length_append] at this; omega
  have hL : (τo ++ σ).length = (τs ++ (δ ++ List.replicate (σ.length - δ.length) S.un)).length := by simp only [List.length_append, List.length_replicate]; omega
  have lo : ∀ (i : Nat) (s : S), i < (τo ++ σ).length → ((τs ++ (δ ++ List.replicate (σ.length - δ.length) S.un)) ++ hide δ vs)[i]? = some s → (τs ++ δ)[i]? = some s ∨ s = .un := fun i s hi h => by
    rw [List.getElem?_append_left (by rw [← hL]; exact hi), ← List.append_assoc] at h
    rcases Nat.lt_or_ge i (τs ++ δ).length with q | q
    · rw [List.getElem?_append_left q] at h; exact .inl h
    · rw [List.getElem?_append_right q] at h
      exact .inr (by
        have := List.mem_of_getElem? h
        exact List.eq_of_mem_replicate this)
  have hi : ∀ (i : Nat) (s : S), (τo ++ σ).length ≤ i → ((τs ++ (δ ++ List.replicate (σ.length - δ.length) S.un)) ++ hide δ vs)[i]? = some s → owned s = false ∧ ∃ o, ((τo ++ σ) ++ wipe σ vs)[i]? = some o ∧ SlotOk K He G H s o := fun i s q h => by
    rw [List.getElem?_append_right (by rw [← hL]; exact q), ← hL] at h
    rw [List.getElem?_append_right q]
    rcases hide_get δ vs _ s h with ⟨rfl, z⟩ | ⟨z1, z2, z3⟩
    · refine ⟨rfl, (wipe σ vs)[i - (τo ++ σ).length]'(by rw [wipe_length]; omega), List.getElem?_eq_getElem _, trivial⟩
    · obtain ⟨o, eo, k⟩ := ok.sl (τs.length + (i - (τo ++ σ).length)) s ((len_append (c := σ) (d := δ) hl _).1.trans z3)
      rw [(len_append (c := σ) (d := δ) hl _).2] at eo
      refine ⟨z2, o, ?_, k⟩
      rw [wipe_get, if_neg (fun q => z1 q.1)]; exact eo
  refine ⟨ok.ge, ok.gh, ok.he, ok.nc, fun i s h => ?_, fun i j s t p hij hi' hj o1 o2 e1 e2 => ?_⟩
  · rcases Nat.lt_or_ge i (τo ++ σ).length with q | q
    · rcases lo i s q h with z | rfl
      · obtain ⟨o, eo, k⟩ := ok.sl i s z
        exact ⟨o, by rw [List.getElem?_append_left q]; exact eo, k⟩
      · exact ⟨(τo ++ σ)[i], by rw [List.getElem?_append_left q]; exact List.getElem?_eq_getElem q, trivial⟩
    · exact (hi i s q h).2
  · rcases Nat.lt_or_ge i (τo ++ σ).length with q | q
    · rcases Nat.lt_or_ge j (τo ++ σ).length with q2 | q2
      · rw [List.getElem?_append_left q] at e1
        rw [List.getElem?_append_left q2] at e2
        rcases lo i s q hi' with z | rfl
        · rcases lo j t q2 hj with z2 | rfl
          · exact ok.ne i j s t p hij z z2 o1 o2 e1 e2
          · cases o2
        · cases o1
      · rw [(hi j t q2 hj).1] at o2; cases o2
    · rw [(hi i s q hi').1] at o1; cases o1
/-- back from the block -/
theorem OKG.unblock {He Ge H G : Hp} {α σ2 : St} {τs : List S} {n : Nat} {δ2 : List S} (ok : OKG K He Ge H G (α ++ σ2) ((τs ++ (δ ++ List.replicate n .un)) ++ δ2)) (hl : α.length = (τs ++ (δ ++ List.replicate n S.un)).length) : OKG K He Ge H G α (τs ++ δ) := by
  have lt : ∀ (i : Nat) (s : S), (τs ++ δ)[i]? = some s → i < α.length ∧ ((τs ++ (δ ++ List.replicate n S.un)) ++ δ2)[i]? = some s := fun i s h => by
    have q := (List.getElem?_eq_some_iff.mp h).1
    have q2 : i < (τs ++ (δ ++ List.replicate n S.un)).length := by simp only [List.length_append] at q ⊢; omega
    refine ⟨by rw [hl]; exact q2, ?_⟩
    rw [List.getElem?_append_left q2, ← List.append_assoc, List.getElem?_append_left q]; exact h
  refine ⟨ok.ge, ok.gh, ok.he, ok.nc, fun i s h => ?_, fun i j s t p hij hi hj o1 o2 e1 e2 => ?_⟩
  · obtain ⟨q, h2⟩ := lt i s h
    obtain ⟨o, eo, k⟩ := ok.sl i s h2
    exact ⟨o, by rwa [List.getElem?_append_left q] at eo, k⟩
  · obtain ⟨q1, h1⟩ := lt i s hi
    obtain ⟨q2, h2⟩ := lt j t hj
    exact ok.ne i j s t p hij h1 h2 o1 o2 (by rw [List.getElem?_append_left q1]; exact e1) (by rw [List.getElem?_append_left q2]; exact e2)
/-- the ground moved up: what is data now stays data -/
theorem OKG.ground {He Ge H G : Hp} {σ : St} {δ : List S} (ok : OKG K He Ge H G σ δ) : OKG K He G H G σ δ := ⟨.refl G, ok.gh, ok.he, ⟨fun _ _ z => z, ok.nc.t0.mono (fun _ _ e => e) ok.ge, ok.nc.tb⟩, ok.sl, ok.ne⟩
theorem OKG.unground {He Ge H H' G G' : Hp} {σ σ' : St} {δ δ' : List S} (ok : OKG K He Ge H G σ δ) (ok' : OKG K He G H' G' σ' δ') : OKG K He Ge H' G' σ' δ' := ⟨ok.ge.trans ok'.ge, ok'.gh, ok'.he, ⟨fun b h1 h2 => ok'.nc b h1 (ok.nc b h1 h2), ok.nc.t0, ok'.nc.tb⟩, ok'.sl, ok'.ne⟩

theorem ev_lc {α : Type} {ys : List α} {h : α → D} {p : α → Bool} {f : α → D} {wi : TI} {g : TG} {tt : TT} {vs : List Nat} (hi : EI K wi δ (ys.map h)) (hg : GOk g vs) (hz : ys.length ≤ sizeLine)
    (k : ∀ y ∈ ys, ∃ δ2, ET K g (hide δ vs) (h y) δ2 ∧ EB K tt δ2 (p y) ∧ (p y = true → EV K te δ2 (.d (f y)))) : EV K (tLc wi g tt te vs) δ (.own ((ys.filter p).map f)) := by
  intro He Ge H τo τs σ hl ok Q q
  refine hi He Ge H τo τs σ hl ok _ fun J H1 G ok1 jis => ?_
  intro Dp hD
  have okD := (ok1.newOwn (xs := []) (vs := []) hD .nil).ground
  have lus : (ys.map h).length = ys.length := List.length_map ..
  -- behind i turns: the list at Dp is what was made of the first i
  refine ⟨fun i m H2 => i + m = (ys.map h).length ∧ OK K He G H2 (some (.ref Dp) :: (τo ++ σ)) (.own (((ys.take i).filter p).map f) :: (τs ++ δ)), ⟨(ys.map h).length, by omega, G, okD⟩, fun i m H2 ⟨em, G2, ok2⟩ => ?_⟩
  obtain ⟨j1, j2, j3⟩ := jis H2 G2 ok2.ge ok2.gh
  rcases Nat.lt_or_ge i (ys.map h).length with hlt | hge
  · have hy : i < ys.length := by omega
    have ey : ys[i]? = some ys[i] := List.getElem?_eq_getElem hy
    have ex : (ys.map h)[i]? = some (h ys[i]) := by rw [List.getElem?_map, ey]; rfl
    have tk : ys.take (i + 1) = ys.take i ++ [ys[i]] := by rw [List.take_add_one, ey]; rfl
    refine .inr ⟨j1 i hlt, fun H3 => OK K He G H3 (some (.ref Dp) :: (τo ++ σ)) (.own (((ys.take (i + 1)).filter p).map f) :: (τs ++ δ)), fun H3 k3 => ⟨m - 1, by omega, by omega, k3⟩, fun x H3 hx => ?_⟩
    obtain ⟨G3, y, g1, g2, g3, g4, ey2, rv⟩ := j2 i x H3 hx hlt
    rw [ex] at ey2
    cases ey2
    replace ok2 := ok2.grow g1 g2 g3 (g4.ok ok2.nc.tb)
    obtain ⟨δ2, kt, kb, ke⟩ := k ys[i] (List.getElem_mem hy)
    have hd : δ.length ≤ σ.length := by have := ok1.len; simp only [List.length_append] at this; omega
    have hL : ((some (V.ref Dp) :: τo) ++ σ).length = ((S.own (((ys.take i).filter p).map f) :: τs) ++ (δ ++ List.replicate (σ.length - δ.length) S.un)).length := by
      simp only [List.length_append, List.length_cons, List.length_replicate]; omega
    have okB := OKG.block (vs := vs) (τo := some (.ref Dp) :: τo) (τs := .own (((ys.take i).filter p).map f) :: τs) (σ := σ) (δ := δ) ok2 (by simp [hl])
    have z := hg x (wipe σ vs) H3 _ (kt He G H3 G3 _ _ (wipe σ vs) x hL okB rv (fun σ2 H4 => tt σ2 H4 fun b H5 => if b = true then te σ2 H5 fun y H6 => ∃ acc, H6 Dp = some (.lst acc) ∧ acc.length < sizeLine ∧ OK K He G (upd H6 Dp (.lst (acc ++ [y]))) (some (.ref Dp) :: (τo ++ σ)) (.own (((ys.take (i + 1)).filter p).map f) :: (τs ++ δ)) else OK K He G H5 (some (.ref Dp) :: (τo ++ σ)) (.own (((ys.take (i + 1)).filter p).map f) :: (τs ++ δ))) fun σ2 ok3 => ?_)
    · rw [wipe_wipe] at z; exact z
    · refine kb He G H3 _ _ σ2 hL ⟨G3, ok3⟩ _ fun H4 ok4 => ?_
      cases hp : p ys[i] with
      | false =>
        refine iteF ?_
        obtain ⟨G4, ok4⟩ := ok4
        have e : ((ys.take (i + 1)).filter p).map f = ((ys.take i).filter p).map f := by rw [tk, List.filter_append]; simp [hp]
        rw [e]
        exact ⟨G4, ok4.unblock hL⟩
      | true =>
        refine iteT (ke hp He G H4 _ _ σ2 hL ok4 _ fun w H5 ⟨G5, ok5⟩ => ?_)
        have ok6 := OKG.unblock (α := some w :: ((some (.ref Dp) :: τo) ++ σ)) (σ2 := σ2) (τs := .d (f ys[i]) :: (S.own (((ys.take i).filter p).map f) :: τs)) (n := σ.length - δ.length) (δ2 := δ2) ok5 (by simp only [List.length_cons]; exact congrArg (· + 1) (by simpa using hL))
        obtain ⟨o, eo, pp, acc, e1, _, _, h3, r3⟩ := ok6.sl 1 _ rfl
        cases eo; cases e1
        obtain ⟨w', e2, rw_⟩ := ok6.top
        cases e2
        have hacc : acc.length ≤ i := by
          rw [← r3.length, List.length_map]
          exact Nat.le_trans (List.length_filter_le _ _) (by rw [List.length_take]; omega)
        refine ⟨acc, h3, by omega, G5, ?_⟩
        have e : ((ys.take (i + 1)).filter p).map f = ((ys.take i).filter p).map f ++ [f ys[i]] := by rw [tk, List.filter_append]; simp [hp]
        rw [e]
        exact (OKG.change (i := 1) ok6 rfl rfl h3 (r3.append (.cons rw_ .nil))).pop
  · refine .inl ⟨j3 i hge, ?_⟩
    have e : ys.take i = ys := List.take_of_length_le (by omega)
    rw [e] at ok2
    exact q _ H2 ⟨G2, ok1.unground ok2⟩
variable {E : WX} {N B C : List S → Prop} {R : S → List S → Prop} {X : List S → Addr → List (Str × D) → Prop} {t u : TS} {c : TT} {b : Bool}
theorem sd_next (h : N δ) : SD K E tNext δ N R B C X := fun He Ge H σ Dn ok n r bk ct xx => n δ σ H ok h
theorem sd_break (h : B δ) : SD K E tBreak δ N R B C X := fun He Ge H σ Dn ok n r bk ct xx => bk δ σ H ok h
theorem sd_cont (h : C δ) : SD K E tCont δ N R B C X := fun He Ge H σ Dn ok n r bk ct xx => ct δ σ H ok h
theorem sd_seq (h : SD K E t δ (fun δ' => SD K E u δ' N R B C X) R B C X) : SD K E (tSeq t u) δ N R B C X := fun He Ge H σ Dn ok n r bk ct xx =>
  h He Ge H σ { Dn with nx := u Dn } ok (fun δ' σ' H' ok' k => k He Ge H' σ' Dn ok' n r bk ct xx) r bk ct xx
theorem ev0 {te : TE} (h : EV K te δ s) {He Ge H : Hp} {σ : St} (ok : OK K He Ge H σ δ) {Q : VK} (q : ∀ v H', OK K He Ge H' (some v :: σ) (s :: δ) → Q v H') : te σ H Q := h He Ge H [] [] σ rfl ok Q q
theorem eb0 {c : TT} (h : EB K c δ b) {He Ge H : Hp} {σ : St} (ok : OK K He Ge H σ δ) {Q : Bool → Hp → Prop} (q : ∀ H', OK K He Ge H' σ δ → Q b H') : c σ H Q := h He Ge H [] [] σ rfl ok Q q
theorem sd_set {i : Nat} (h : EV K te δ s) (hi : i < δ.length) (n : N (δ.set i s)) : SD K E (tAsg te (gName i)) δ N R B C X := fun He Ge H σ Dn ok nx r bk ct xx =>
  ev0 h ok fun v H' ⟨G', ok'⟩ => nx _ _ _ ⟨G', ok'.store hi⟩ n
theorem sd_if (h : EB K c δ b) (h1 : b = true → SD K E t δ N R B C X) (h2 : b = false → SD K E u δ N R B C X) : SD K E (tIfS c t u) δ N R B C X := fun He Ge H σ Dn ok nx r bk ct xx =>
  eb0 h ok fun H' ok' => by
    cases b with
    | true => exact iteT (h1 rfl He Ge H' σ Dn ok' nx r bk ct xx)
    | false => exact iteF (h2 rfl He Ge H' σ Dn ok' nx r bk ct xx)
theorem sd_ret (h : EV K te δ s) (hs : notOt s = true) (r : R s δ) : SD K E (tRet te) δ N R B C X := fun He Ge H σ Dn ok nx rt bk ct xx => ev0 h ok fun v H' ⟨G', ok'⟩ => rt v s σ δ H' ⟨G', ok', oti_of hs⟩ r
theorem sd_drop (h : EV K te δ s) (n : N δ) : SD K E (tDrop te) δ N R B C X := fun He Ge H σ Dn ok nx r bk ct xx => ev0 h ok fun v H' ⟨G', ok'⟩ => nx _ _ _ ⟨G', ok'.pop⟩ n
/-- weaker slots first -/
theorem sd_weak {δ' : List S} (w : weak δ δ') (h : SD K E t δ' N R B C X) : SD K E t δ N R B C X := fun He Ge H σ Dn ⟨G, ok⟩ nx r bk ct xx => h He Ge H σ Dn ⟨G, ok.weak w⟩ nx r bk ct xx
theorem sd_mono {N' B' C' : List S → Prop} {R' : S → List S → Prop} {X' : List S → Addr → List (Str × D) → Prop} (h : SD K E t δ N R B C X) (n : ∀ δ, N δ → N' δ) (r : ∀ s δ, R s δ → R' s δ) (b : ∀ δ, B δ → B' δ) (c : ∀ δ, C δ → C' δ) (x : ∀ δ a fs, X δ a fs → X' δ a fs) : SD K E t δ N' R' B' C' X' := fun He Ge H σ Dn ok nx rt bk ct xx =>
  h He Ge H σ Dn ok (fun δ' σ' H' k p => nx δ' σ' H' k (n _ p)) (fun v s σ' δ' H' k p => rt v s σ' δ' H' k (r _ _ p)) (fun δ' σ' H' k p => bk δ' σ' H' k (b _ p)) (fun δ' σ' H' k p => ct δ' σ' H' k (c _ p))
    (fun c fs cls d G' σ' δ' H' k k2 p => xx c fs cls d G' σ' δ' H' k k2 (x _ _ _ p))
/-- xs.append(e), xs a list of one's own in slot i -/
theorem sd_append {i : Nat} (hi : δ[i]? = some (.own xs)) (h : EV K te δ (.d x)) (hz : xs.length < sizeLine) (n : N (δ.set i (.own (xs ++ [x])))) : SD K E (tDrop (tBM K "list" rAppend (tVar i) (tCons te tNil))) δ N R B C X := by
  intro He Ge H σ Dn ok nx r bk ct xx
  obtain ⟨G, okk⟩ := id ok
  obtain ⟨o, eo, p, vs, rfl, h1, h2, h3, rv⟩ := okk.sl i _ hi
  refine ⟨_, eo, .inl ⟨rfl, _, SqL.of h3⟩, ?_⟩
  refine ev0 h ok fun v H' ⟨G', ok'⟩ => ?_
  obtain ⟨o2, eo2, p2, vs2, e2, k1, k2, k3, rv2⟩ := ok'.sl (i + 1) (.own xs) (by simpa using hi)
  have e3 : o2 = some (.ref p) := by
    have : σ[i]? = some o2 := by simpa using eo2
    rw [eo] at this
    exact (Option.some.inj this).symm
  subst e3
  cases e2
  obtain ⟨w, e4, rw_⟩ := ok'.top
  cases e4
  refine ⟨p, vs2, v, rfl, rfl, k3, by rw [← rv2.length]; exact hz, ?_⟩
  exact nx _ _ _ ⟨G', OKG.change ok'.pop hi eo k3 (rv2.append (.cons rw_ .nil))⟩ n
end
def Fits (out : Out) (s : S) : Prop := out = .ret s ∨ ∃ xs, s = .own xs ∧ out = .ret (.d (.lst xs))
/-- the whole of a def's body -/
def SDef (K : PySem.W.Frag) (E : WX) (t : TS) (δ : List S) (out : Out) : Prop := SD K E t δ (fun _ => out = .ret (.d .non)) (fun s _ => Fits out s) NoS NoS (fun _ c fs => out = .exc c fs)
def slots (n : Nat) (xs : List D) : List S := xs.map .d ++ List.replicate (n - xs.length) .un
theorem ok_start {K : PySem.W.Frag} {G H : Hp} {N : List Str} {xs : List D} {vs : List V} (e : Ex G H ∧ TabOk K H G) (r : RpL K G xs vs) : OK K H G H (L2.start N vs) (slots N.length xs) := by
  refine ⟨G, .refl G, e.1, .refl H, ⟨fun _ _ z => z, e.2, e.2⟩, fun i s h => ?_, fun i j s t p hij hi hj o1 => ?_⟩
  · unfold slots at h
    unfold L2.start
    rcases Nat.lt_or_ge i xs.length with q | q
    · rw [List.getElem?_append_left (by simpa using q), List.getElem?_map] at h
      obtain ⟨x, ex, rfl⟩ := Option.map_eq_some_iff.mp h
      obtain ⟨v, ev, rv⟩ := r.get ex
      refine ⟨some v, ?_, v, rfl, rv⟩
      rw [List.getElem?_append_left (by rw [List.length_map, ← r.length]; exact q), List.getElem?_map, ev]; rfl
    · rw [List.getElem?_append_right (by simpa using q)] at h
      have hs : s = .un := List.eq_of_mem_replicate (List.mem_of_getElem? h)
      have hl := (List.getElem?_eq_some_iff.mp h).1
      rw [List.length_replicate, List.length_map] at hl
      subst hs
      refine ⟨none, ?_, trivial⟩
      rw [List.getElem?_append_right (by rw [List.length_map, ← r.length]; exact q), List.getElem?_replicate, if_pos (by rw [List.length_map, ← r.length]; exact hl)]
  · have : ∀ s ∈ slots N.length xs, owned s = false := fun s hs => by
      rcases List.mem_append.mp hs with z | z
      · obtain ⟨x, _, rfl⟩ := List.mem_map.mp z; rfl
      · rw [List.eq_of_mem_replicate z]; rfl
    rw [this s (List.mem_of_getElem? hi)] at o1; cases o1
theorem body_run {K : PySem.W.Frag} {R : List D → Out → Prop} {N : List Str} {vs : List V} {H : Hp} {Q : VK} {E : XK} {t : TS} (h : spD K R vs H Q E) (k : ∀ xs out, R xs out → SDef K (fun cls d _ H => E cls d H) t (slots N.length xs) out) : t { nx := fun _ H' => Q .non H', rt := Q } (L2.start N vs) H := by
  obtain ⟨G, xs, out, e, r, hr, q1, q2⟩ := h
  refine k xs out hr H G H _ _ (ok_start e r) (fun δ' σ' H' ⟨G', ok⟩ z => ?_) (fun v s σ' δ' H' ⟨G', ok, ot⟩ z => ?_) (fun _ _ _ _ z => z.elim) (fun _ _ _ _ z => z.elim) fun c fs cls d G' σ' δ' H' ok x z => q2 c fs cls d G' H' z ok.ge ok.gh ok.he ok.nc x
  · exact q1 .non _ G' H' z ok.ge ok.gh ok.he ok.nc ⟨.non, rfl, .non⟩ trivial
  · rcases z with z | ⟨ys, rfl, z⟩
    · exact q1 v s G' H' z ok.ge ok.gh ok.he ok.nc ok.top ot
    · obtain ⟨G2, ok2⟩ := ok.freeze
      exact q1 v _ G2 H' z ok2.ge ok2.gh ok2.he ok2.nc ok2.top trivial
section
open PySem.Spec PyProof.Rows
variable {P : Program} {w : World} {K : PySem.W.Frag} {mg : Str → Option Value} {base : Heap}
theorem spD_len {R : List D → Out → Prop} {n : Nat} (h : ∀ xs out, R xs out → xs.length = n) : ∀ vs H Q E, spD K R vs H Q E → vs.length = n := fun vs H Q E ⟨G, xs, out, e, r, hr, _⟩ => by rw [← r.length]; exact h xs out hr
theorem ok_def {x qual : Str} {st : Stmt} {f : Addr} {fd : FuncData} {N ps : List Str} {k : Nat} {R : List D → Out → Prop} {t : TS} (F : Fun K x qual st f fd) (S : FnScope N ps (defScope st)) (hl : ∀ xs out, R xs out → xs.length = ps.length)
    (hd : ∀ (cdv : Value) (A : Around) (outer : List Env) (s : Shared) (H : Hp) (E : XK), Room k (A.deeper (envOfC qual (defScope st) s.heap.objs.size f cdv)) → PSs (cxOf CX0 P w K mg base N qual (defScope st) f cdv A outer s H E).nox (defBody st) t)
    (hs : ∀ (E : WX) xs out, R xs out → SDef K E t (slots N.length xs) out) : FnOk P w K mg base CX0 (k + 1) f fd ps (spD K R) :=
  F.ok S (spD_len hl) fun cdv A outer s H vs Q E hr h => ⟨t, hd cdv A outer s H E hr, body_run h (hs _)⟩
end
end Far
namespace Far
open PySem L2
section
variable {K : PySem.W.Frag}
theorem done {He Ge H G : Hp} {σ : St} {δ : List S} {x : D} {v : V} (ok : OKG K He Ge H G σ δ) (r : Rp K G x v) : OK K He Ge H (some v :: σ) (.d x :: δ) := ⟨G, ok.pushD r⟩
theorem doneT {He Ge H G : Hp} {σ : St} {δ : List S} {xs : List D} {vs : List V} {p : Addr} {o : Obj} (ok : OKG K He Ge H G σ δ) (hp : H p = none) (hc : o.cls = .type "tuple") (hd : o.dict = none) (r : RpL K G xs vs) : OK K He Ge (upd H p (.frz o (.tup vs))) (some (.ref p) :: σ) (.d (.tup xs) :: δ) :=
  ⟨_, (ok.newG hp).pushD (.tup (.inl ⟨o, upd_same, hc, hd⟩) (r.mono (.new (ok.gh.none hp))))⟩
theorem doneL {He Ge H G : Hp} {σ : St} {δ : List S} {xs : List D} {vs : List V} {p : Addr} (ok : OKG K He Ge H G σ δ) (hp : H p = none) (r : RpL K G xs vs) : OK K He Ge (upd H p (.lst vs)) (some (.ref p) :: σ) (.own xs :: δ) :=
  ⟨G, ok.newOwn hp r⟩
theorem rv_I0 {g : Int → Int → Int} {i j : Int} : RV2 K (rI0 fun i j => .int (g i j)) (.int i) (.int j) (.d (.int (g i j))) := by
  intro He Ge H G σ δ v u ok rv ru Q q
  cases rv; cases ru
  exact ⟨i, j, rfl, rfl, q _ _ (done ok .int)⟩
theorem rv_B0 {g : Int → Int → Bool} {i j : Int} : RV2 K (rI0 fun i j => .bl (g i j)) (.int i) (.int j) (.d (.bl (g i j))) := by
  intro He Ge H G σ δ v u ok rv ru Q q
  cases rv; cases ru
  exact ⟨i, j, rfl, rfl, q _ _ (done ok .bl)⟩
theorem rv_I {C : Int → Int → Prop} {g : Int → Int → Int} {i j : Int} (h : C i j) : RV2 K (rI C fun i j => .int (g i j)) (.int i) (.int j) (.d (.int (g i j))) := by
  intro He Ge H G σ δ v u ok rv ru Q q
  cases rv; cases ru
  exact ⟨i, j, rfl, rfl, h, q _ _ (done ok .int)⟩
theorem rv1_U {g : Int → Int} {i : Int} : RV1 K (rU fun i => .int (g i)) (.int i) (.d (.int (g i))) := by
  intro He Ge H G σ δ v ok rv Q q
  cases rv
  exact ⟨i, rfl, q _ _ (done ok .int)⟩
theorem RV2.inl {r r' : R2} {x y : D} {s : S} (h : RV2 K r x y s) : RV2 K (fun a b H Q => r a b H Q ∨ r' a b H Q) x y s := fun He Ge H G σ δ v u ok rv ru Q q => .inl (h He Ge H G σ δ v u ok rv ru Q q)
theorem RV2.inr {r r' : R2} {x y : D} {s : S} (h : RV2 K r' x y s) : RV2 K (fun a b H Q => r a b H Q ∨ r' a b H Q) x y s := fun He Ge H G σ δ v u ok rv ru Q q => .inr (h He Ge H G σ δ v u ok rv ru Q q)
theorem RVN.inl {r r' : List V → Hp → VK → Prop} {xs : List D} {s : S} (h : RVN K r xs s) : RVN K (fun a H Q => r a H Q ∨ r' a H Q) xs s := fun He Ge H G σ δ v ok rv Q q => .inl (h He Ge H G σ δ v ok rv Q q)
theorem RVN.inr {r r' : List V → Hp → VK → Prop} {xs : List D} {s : S} (h : RVN K r' xs s) : RVN K (fun a H Q => r a H Q ∨ r' a H Q) xs s := fun He Ge H G σ δ v ok rv Q q => .inr (h He Ge H G σ δ v ok rv Q q)
def rAddI : R2 := rI0 fun i j => .int (i + j)
def rAddT : R2 := fun x y H Q => ∃ i j, x = .str i ∧ y = .str j ∧ i.length + j.length ≤ sizeLine ∧ Q (.str (i ++ j)) H
/-- t + u: with an empty one the other itself -/
def rCatP (K : PySem.W.Frag) : R2 := fun x y H Q => ∃ a b xs ys, x = .ref a ∧ y = .ref b ∧ SqT K H a xs ∧ SqT K H b ys ∧ xs.length + ys.length ≤ sizeLine ∧
  (xs = [] → Q (.ref b) H) ∧ (xs ≠ [] → ys = [] → Q (.ref a) H) ∧ (xs ≠ [] → ys ≠ [] → NewT H (xs ++ ys) Q)
section
open PySem.Spec PyProof.Rows
theorem op_catP {X : Cx} : OpR X (binaryOp .Add) (rCatP X.K) := by
  intro pins s σ H x y v u Q I rx ry h
  obtain ⟨a, b, xs, ys, rfl, rfl, ha, hb, hz, q0, q1, q2⟩ := h
  cases rx
  cases ry
  obtain ⟨its, r1, p1, _⟩ := I.tuple ha
  obtain ⟨its2, r2, p2, _⟩ := I.tuple hb
  by_cases hx : xs = []
  · subst hx
    cases r1
    exact cat_tup0 p1 p2 ⟨.ref b, H, I, rfl, q0 rfl⟩
  · refine HT.cat_tup p1 p2 (fun z => hx (r1.nil_iff.mp z)) (fun z => ⟨.ref a, H, I, rfl, q1 hx (r2.nil_iff.mp z)⟩) (fun z => ?_) (by rw [← r1.length, ← r2.length]; exact hz)
    refine ⟨.ref s.heap.objs.size, _, I.laid (t' := s.toks) (o := .frz _ (.tup (xs ++ ys))) (fun b ob q => Heap.get?_push_of_some _ q) (Nat.le_refl _) ⟨Heap.get?_push_size _ rfl, by rw [List.length_append]; exact hz, _, r1.append r2, IsTup.new _ _⟩, rfl, ?_⟩
    exact q2 hx (fun w => z (r2.nil_iff.mpr w)) _ _ (I.hok.fresh (Nat.le_refl _)) rfl rfl
end
def rAddU (K : PySem.W.Frag) : R2 := fun x y H Q => (rAddI x y H Q ∨ rAddT x y H Q) ∨ (rCat x y H Q ∨ rCatP K x y H Q)
theorem op_addU {X : Cx} : OpR X (binaryOp .Add) (rAddU X.K) := OpR.or (OpR.or op_add op_add_str) (OpR.or op_cat op_catP)
theorem add_int {i j : Int} : RV2 K (rAddU K) (.int i) (.int j) (.d (.int (i + j))) := .inl (.inl rv_I0)
theorem add_str {i j : Str} (h : i.length + j.length ≤ sizeLine) : RV2 K (rAddU K) (.str i) (.str j) (.d (.str (i ++ j))) := .inl (.inr (by
  intro He Ge H G σ δ v u ok rv ru Q q
  cases rv; cases ru
  exact ⟨i, j, rfl, rfl, h, q _ _ (done ok .str)⟩))
theorem add_lst {xs ys : List D} (h : xs.length + ys.length ≤ sizeLine) : RV2 K (rAddU K) (.lst xs) (.lst ys) (.own (xs ++ ys)) := .inr (.inl (by
  intro He Ge H G σ δ v u ok rv ru Q q
  cases rv with
  | lst h1 r1 =>
    cases ru with
    | lst h2 r2 => exact ⟨_, _, _, _, rfl, rfl, ok.gh _ _ h1, ok.gh _ _ h2, by rw [← r1.length, ← r2.length]; exact h, fun p hp => q _ _ (doneL ok hp (r1.append r2))⟩))
theorem add_tup {xs ys : List D} (h : xs.length + ys.length ≤ sizeLine) : RV2 K (rAddU K) (.tup xs) (.tup ys) (.d (.tup (xs ++ ys))) := .inr (.inr (by
  intro He Ge H G σ δ v u ok rv ru Q q
  cases rv with
  | tup h1 r1 =>
    cases ru with
    | tup h2 r2 =>
      refine ⟨_, _, _, _, rfl, rfl, ok.gh.t h1.t, ok.gh.t h2.t, by rw [← r1.length, ← r2.length]; exact h, fun e => ?_, fun e1 e2 => ?_, fun e1 e2 p o hp hc hd => q _ _ (doneT ok hp hc hd (r1.append r2))⟩
      · subst e; cases r1; exact q _ _ (done ok (.tup h2 r2))
      · subst e2; cases r2; rw [List.append_nil] at q; exact q _ _ (done ok (.tup h1 r1))))
theorem sub_int {i j : Int} : RV2 K (rI0 fun i j => .int (i - j)) (.int i) (.int j) (.d (.int (i - j))) := rv_I0
section
open PySem.Spec PyProof.Rows
def rRepW (K : PySem.W.Frag) : R2 := fun x y H Q => ∃ l k xs, x = .ref l ∧ y = .int k ∧ SqT K H l xs ∧ xs ≠ [] ∧ 2 ≤ k ∧ xs.length * k.toNat ≤ 1000000 ∧ k ≤ 1000000 ∧ NewT H (List.replicate k.toNat xs).flatten Q
theorem op_repW {X : Cx} : OpR X (binaryOp .Mult) (rRepW X.K) := by
  intro pins s σ H x y v u Q I rx ry h
  obtain ⟨l, k, xs, rfl, rfl, hT, hne, h1, hz, h2, q⟩ := h
  cases rx
  obtain ⟨t, rfl⟩ := ry
  obtain ⟨its, r, ⟨⟨cls, dd, data, sl⟩, ho, hc, n, hd⟩, hs⟩ := I.tuple hT
  simp only at hc hd
  subst hc hd
  have hle : its.length = xs.length := r.length.symm
  have hn : its ≠ [] := fun e => hne (by
    rw [e] at hle
    exact List.eq_nil_of_length_eq_zero hle.symm)
  have hi : its.toArray.isEmpty = false := by
    cases its with
    | nil => exact absurd rfl hn
    | cons a b => rfl
  have hsz0 : its.toArray.size = xs.length := by rw [List.size_toArray, hle]
  have hm : ((its.toArray.size : Nat) : Int) * k ≤ 1000000 := by
    rw [hsz0]
    have e : ((xs.length : Nat) : Int) * k = ((xs.length * k.toNat : Nat) : Int) := by push_cast; rw [Int.toNat_of_nonneg (by omega)]
    rw [e]; omega
  have flen : (List.replicate k.toNat its).flatten.length ≤ sizeLine := by
    rw [PyProof.Rows.lm_len_rep_flat, hle, sizeLine_eq, Nat.mul_comm]
    omega
  have c0 : (decide (k < -(2 ^ 63)) || decide (k ≥ 2 ^ 63)) = false := by
    rw [decide_eq_false (by omega), decide_eq_false (by omega)] <;> rfl
  have c1 : (its.toArray.isEmpty || k == 1) = false := by
    rw [hi, Bool.false_or]
    exact beq_eq_false_iff_ne.mpr (by omega)
  have c2 : (decide (k ≤ 0) || its.toArray.isEmpty) = false := by
    rw [hi, Bool.or_false]
    exact decide_eq_false (by omega)
  have c4 : Builtin.Tuple.tupleTooMany (((its.toArray.size : Nat) : Int) * k) = false := by
    unfold Builtin.Tuple.tupleTooMany
    rw [sizeLine_eq]
    exact decide_eq_false (by omega)
  refine wpAny_binaryOp_repeat_ref (T := "tuple") (U := "int") (by decide) ⟨_, ho, rfl⟩ (fun s' => typeIs_int s' k t) noFill_tuple_mul F.fills_int_mul F.slot_int_rmul repeat_tuple F.slot_int_index.lookup
    (call_meets F.slot_int_rmul (typeIs_int s k t) F.entry_int_rmul (F.args_int_rmul_2 _ _) (int_rmul_tuple k t l its.toArray n dd sl)
      ⟨ho, rfl, ⟨_, ho, rfl⟩, call_meets F.slot_tuple_mul ⟨_, ho, rfl⟩ F.entry_tuple_mul (F.args_tuple_mul_2 _ _) (tuple_mulW l its.toArray n dd sl k t c0 c1 c2 (by omega) c4 (by rw [size_rep, List.size_toArray]; exact flen)) ⟨ho, ?_⟩⟩)
  rw [size_rep]
  refine ⟨.ref s.heap.objs.size, _, I.laid (t' := s.toks) (o := .frz _ (.tup (List.replicate k.toNat xs).flatten)) (fun b ob q => Heap.get?_push_of_some _ q) (Nat.le_refl _) ⟨Heap.get?_push_size _ rfl, by rw [PyProof.Rows.lm_len_rep_flat, sizeLine_eq, Nat.mul_comm]; omega, _, r.rep k.toNat, IsTup.new _ _⟩, rfl, ?_⟩
  exact q _ _ (I.hok.fresh (Nat.le_refl _)) rfl rfl
open AutoSeq1 in
theorem tuple_mul1 (l : Addr) (items : Array Value) (n : Nat) (dd : Option Addr) (sl : Array (Option Value)) (u : Tok) :
    Meets (Builtin.«tuple.__mul__» ⟨[.ref l, .int 1 u], []⟩) (fun _ R s => s.heap.get? l = some { cls := .type "tuple", dict := dd, data := .seq items n, slots := sl } ∧ R (.ok (.ret (Value.ref l))) s) :=
  .of_wp fun prog w A R s h => by
    obtain ⟨hp, g, d, tk, os⟩ := s
    obtain ⟨hl, h⟩ := h
    have f1 := AutoSeq1.idx_int
    have c1 : (items.isEmpty || ((1 : Int) == 1)) = true := by simp
    wp_walk using wpAny_loadPart' hl
    exact ⟨_, rfl, h⟩
def rRep1 (K : PySem.W.Frag) : R2 := fun x y H Q => ∃ l xs, x = .ref l ∧ y = .int 1 ∧ SqT K H l xs ∧ Q x H
theorem op_rep1 {X : Cx} : OpR X (binaryOp .Mult) (rRep1 X.K) := by
  intro pins s σ H x y v u Q I rx ry h
  obtain ⟨l, xs, rfl, rfl, hT, q⟩ := h
  cases rx
  obtain ⟨t, rfl⟩ := ry
  obtain ⟨its, r, ⟨⟨cls, dd, data, sl⟩, ho, hc, n, hd⟩, hs⟩ := I.tuple hT
  simp only at hc hd
  subst hc hd
  refine wpAny_binaryOp_repeat_ref (T := "tuple") (U := "int") (by decide) ⟨_, ho, rfl⟩ (fun s' => typeIs_int s' 1 t) noFill_tuple_mul F.fills_int_mul F.slot_int_rmul repeat_tuple F.slot_int_index.lookup
    (call_meets F.slot_int_rmul (typeIs_int s 1 t) F.entry_int_rmul (F.args_int_rmul_2 _ _) (int_rmul_tuple 1 t l its.toArray n dd sl)
      ⟨ho, rfl, ⟨_, ho, rfl⟩, call_meets F.slot_tuple_mul ⟨_, ho, rfl⟩ F.entry_tuple_mul (F.args_tuple_mul_2 _ _) (tuple_mul1 l its.toArray n dd sl t) ⟨ho, ?_⟩⟩)
  exact ⟨.ref l, H, I.tok _, rfl, q⟩
end
def rMulU (K : PySem.W.Frag) : R2 := fun x y H Q => (rI CMul (fun i j => .int (i * j)) x y H Q ∨ rI CMulW (fun i j => .int (i * j)) x y H Q) ∨ (rRep x y H Q ∨ (rRepW K x y H Q ∨ rRep1 K x y H Q))
theorem op_mulU {X : Cx} : OpR X (binaryOp .Mult) (rMulU X.K) := OpR.or (OpR.or op_mul op_mulW) (OpR.or op_rep (OpR.or op_repW op_rep1))
theorem mul_int {i j : Int} (h : CMul i j) : RV2 K (rMulU K) (.int i) (.int j) (.d (.int (i * j))) := .inl (.inl (rv_I h))
theorem mul_wide {i j : Int} (h : CMulW i j) : RV2 K (rMulU K) (.int i) (.int j) (.d (.int (i * j))) := .inl (.inr (rv_I h))
theorem RpL.rep {H : Hp} {xs : List D} {vs : List V} (r : RpL K H xs vs) : ∀ k : Nat, RpL K H (List.replicate k xs).flatten (List.replicate k vs).flatten
  | 0 => .nil
  | k + 1 => by rw [List.replicate_succ, List.replicate_succ, List.flatten_cons, List.flatten_cons]; exact r.append (r.rep k)
theorem mul_lst {xs : List D} {k : Int} (h1 : -(2 ^ 63) ≤ k) (h2 : k < 2 ^ 63) (h3 : xs.length * k.toNat ≤ sizeLine) : RV2 K (rMulU K) (.lst xs) (.int k) (.own (List.replicate k.toNat xs).flatten) := .inr (.inl (by
  intro He Ge H G σ δ v u ok rv ru Q q
  cases ru
  cases rv with
  | lst hl r => exact ⟨_, k, _, rfl, rfl, ok.gh _ _ hl, h1, h2, by rw [← r.length]; exact h3, fun p hp => q _ _ (doneL ok hp (r.rep _))⟩))
theorem mul_tup {xs : List D} {k : Int} (h : xs ≠ []) (h1 : 2 ≤ k) (h2 : xs.length * k.toNat ≤ 1000000) (h3 : k ≤ 1000000) : RV2 K (rMulU K) (.tup xs) (.int k) (.d (.tup (List.replicate k.toNat xs).flatten)) := .inr (.inr (.inl (by
  intro He Ge H G σ δ v u ok rv ru Q q
  cases ru
  cases rv with
  | tup hl r => exact ⟨_, k, _, rfl, rfl, ok.gh.t hl.t, (fun e => h (by rw [e] at r; cases r; rfl)), h1, by rw [← r.length]; exact h2, h3, fun p o hp hc hd => q _ _ (doneT ok hp hc hd (r.rep _))⟩)))
theorem mul_tup1 {xs : List D} : RV2 K (rMulU K) (.tup xs) (.int 1) (.d (.tup xs)) := .inr (.inr (.inr (by
  intro He Ge H G σ δ v u ok rv ru Q q
  cases ru
  cases rv with
  | tup hl r => exact ⟨_, _, rfl, rfl, ok.gh.t hl.t, q _ _ (done ok (.tup hl r))⟩)))
theorem fdiv_int {i j : Int} (h : CDivW i j) : RV2 K (rI CDivW fun i j => .int (i / j)) (.int i) (.int j) (.d (.int (i / j))) := rv_I h
theorem mod_int {i j : Int} (h : 0 < j) : RV2 K (rI (fun _ j => 0 < j) fun i j => .int (i % j)) (.int i) (.int j) (.d (.int (i % j))) := rv_I h
theorem pow_int {i j : Int} (h : CPow i j) : RV2 K (rI CPow fun i j => .int (i ^ j.toNat)) (.int i) (.int j) (.d (.int (i ^ j.toNat))) := rv_I h
theorem neg_int {i : Int} : RV1 K (rU fun i => .int (-i)) (.int i) (.d (.int (-i))) := rv1_U
theorem lt_int {i j : Int} : RV2 K (rI0 fun i j => .bl (decide (i < j))) (.int i) (.int j) (.d (.bl (decide (i < j)))) := rv_B0
theorem le_int {i j : Int} : RV2 K (rI0 fun i j => .bl (decide (i ≤ j))) (.int i) (.int j) (.d (.bl (decide (i ≤ j)))) := rv_B0
theorem gt_int {i j : Int} : RV2 K (rI0 fun i j => .bl (decide (j < i))) (.int i) (.int j) (.d (.bl (decide (j < i)))) := rv_B0
mutual
def pd : D → PyData
  | .non => .none
  | .bl b => .bool b
  | .int i => .int i
  | .str x => .str x
  | .tup xs => .tuple (pdL xs)
  | .lst xs => .list (pdL xs)
  | .scr xs => .list (pdL xs)
  | _ => .none
def pdL : List D → List PyData
  | [] => []
  | x :: xs => pd x :: pdL xs
end
mutual
def pur : D → Bool
  | .non => true
  | .bl _ => true
  | .int _ => true
  | .str x => PyData.strOk x
  | .tup xs => purL xs
  | .lst xs => purL xs
  | .scr xs => purL xs
  | _ => false
def purL : List D → Bool
  | [] => true
  | x :: xs => pur x && purL xs
end
mutual
theorem Rp.dp {G : Hp} : ∀ {d : D} {v : V}, Rp K G d v → pur d = true → Dp K G v (pd d)
  | _, _, .non, _ => by unfold pd; exact .non
  | _, _, .bl, _ => by unfold pd; exact .bl _
  | _, _, .int, _ => by unfold pd; exact .int _
  | _, _, .str, _ => by unfold pd; exact .str _
  | _, _, .ty, h => by simp [pur] at h
  | _, _, .cls, h => by simp [pur] at h
  | _, _, .tup h r, p => by unfold pd; exact .tup h.t (RpL.dp r (by simpa [pur] using p))
  | _, _, .lst h r, p => by unfold pd; exact .lst (SqL.of h) (RpL.dp r (by simpa [pur] using p))
  | _, _, .scr h r, p => by unfold pd; exact .lst h (RpL.dp r (by simpa [pur] using p))
  | _, _, .ins _ _, h => by simp [pur] at h
  | _, _, .utp _ _, h => by simp [pur] at h
  | _, _, .dK _ _, h => by simp [pur] at h
  | _, _, .dP _ _, h => by simp [pur] at h
  | _, _, .dO _, h => by simp [pur] at h
theorem RpL.dp {G : Hp} : ∀ {ds : List D} {vs : List V}, RpL K G ds vs → purL ds = true → DpAll K G vs (pdL ds)
  | _, _, .nil, _ => by unfold pdL; exact .nil
  | _, _, .cons h r, p => by
    unfold purL at p
    rw [Bool.and_eq_true] at p
    unfold pdL
    exact .cons (Rp.dp h p.1) (RpL.dp r p.2)
end
def rEqU (K : PySem.W.Frag) : R2 := fun x y H Q => rEq x y H Q ∨ rEqD K x y H Q
def rNeU (K : PySem.W.Frag) : R2 := fun x y H Q => rNe x y H Q ∨ rNeD K x y H Q
theorem op_eqU {X : Cx} (hu : X.A.units + 64 < cLine) : OpR X (compareOp .Eq) (rEqU X.K) := OpR.or op_eq (op_eqD hu)
theorem op_neU {X : Cx} (hu : X.A.units + 64 < cLine) : OpR X (compareOp .NotEq) (rNeU X.K) := OpR.or op_ne (op_neD hu)
theorem eq_scal {x y : D} {v u : V} {b : Bool} (h1 : ∀ G w, Rp K G x w → w = v) (h2 : ∀ G w, Rp K G y w → w = u) (hs : scal v u = true) (hb : decide (v = u) = b) : RV2 K (rEqU K) x y (.d (.bl b)) := .inl (by
  intro He Ge H G σ δ v' u' ok rv ru Q q
  have e1 := h1 _ _ rv
  have e2 := h2 _ _ ru
  subst e1; subst e2
  exact ⟨hs, by rw [hb]; exact q _ _ (done ok .bl)⟩)
theorem ne_scal {x y : D} {v u : V} {b : Bool} (h1 : ∀ G w, Rp K G x w → w = v) (h2 : ∀ G w, Rp K G y w → w = u) (hs : scal v u = true) (hb : (!decide (v = u)) = b) : RV2 K (rNeU K) x y (.d (.bl b)) := .inl (by
  intro He Ge H G σ δ v' u' ok rv ru Q q
  have e1 := h1 _ _ rv
  have e2 := h2 _ _ ru
  subst e1; subst e2
  exact ⟨hs, by rw [hb]; exact q _ _ (done ok .bl)⟩)
theorem rp_int_eq {i : Int} : ∀ G w, Rp K G (.int i) w → w = .int i := fun _ _ h => by cases h; rfl
theorem rp_str_eq {i : Str} : ∀ G w, Rp K G (.str i) w → w = .str i := fun _ _ h => by cases h; rfl
theorem rp_bl_eq {i : Bool} : ∀ G w, Rp K G (.bl i) w → w = .bl i := fun _ _ h => by cases h; rfl
theorem rp_non_eq : ∀ G w, Rp K G .non w → w = .non := fun _ _ h => by cases h; rfl
theorem dec_i {i j : Int} : decide (V.int i = V.int j) = decide (i = j) := by simp
theorem dec_s {i j : Str} : decide (V.str i = V.str j) = decide (i = j) := by simp
theorem dec_b {i j : Bool} : decide (V.bl i = V.bl j) = decide (i = j) := by simp
theorem eq_int {i j : Int} : RV2 K (rEqU K) (.int i) (.int j) (.d (.bl (decide (i = j)))) := eq_scal rp_int_eq rp_int_eq rfl dec_i
theorem eq_str {i j : Str} : RV2 K (rEqU K) (.str i) (.str j) (.d (.bl (decide (i = j)))) := eq_scal rp_str_eq rp_str_eq rfl dec_s
theorem eq_bl {i j : Bool} : RV2 K (rEqU K) (.bl i) (.bl j) (.d (.bl (decide (i = j)))) := eq_scal rp_bl_eq rp_bl_eq rfl dec_b
theorem eq_int_non {i : Int} : RV2 K (rEqU K) (.int i) .non (.d (.bl false)) := eq_scal rp_int_eq rp_non_eq rfl (by simp)
theorem eq_non_int {i : Int} : RV2 K (rEqU K) .non (.int i) (.d (.bl false)) := eq_scal rp_non_eq rp_int_eq rfl (by simp)
theorem eq_non : RV2 K (rEqU K) .non .non (.d (.bl true)) := by
  refine .inr ?_
  intro He Ge H G σ δ v u ok rv ru Q q
  cases rv; cases ru
  exact ⟨.none, .none, .non, .non, rfl, rfl, q _ _ (done ok .bl)⟩
theorem ne_int {i j : Int} : RV2 K (rNeU K) (.int i) (.int j) (.d (.bl (!decide (i = j)))) := ne_scal rp_int_eq rp_int_eq rfl (by rw [dec_i])
theorem ne_str {i j : Str} : RV2 K (rNeU K) (.str i) (.str j) (.d (.bl (!decide (i = j)))) := ne_scal rp_str_eq rp_str_eq rfl (by rw [dec_s])
theorem ne_bl {i j : Bool} : RV2 K (rNeU K) (.bl i) (.bl j) (.d (.bl (!decide (i = j)))) := ne_scal rp_bl_eq rp_bl_eq rfl (by rw [dec_b])
theorem ne_int_non {i : Int} : RV2 K (rNeU K) (.int i) .non (.d (.bl true)) := ne_scal rp_int_eq rp_non_eq rfl (by simp)
theorem ne_non_int {i : Int} : RV2 K (rNeU K) .non (.int i) (.d (.bl true)) := ne_scal rp_non_eq rp_int_eq rfl (by simp)
theorem ne_non : RV2 K (rNeU K) .non .non (.d (.bl false)) := by
  refine .inr ?_
  intro He Ge H G σ δ v u ok rv ru Q q
  cases rv; cases ru
  exact ⟨.none, .none, .non, .non, rfl, rfl, q _ _ (done ok .bl)⟩
theorem eq_dat {x y : D} (p1 : pur x = true) (p2 : pur y = true) (h1 : SeqAt.shaped (pd x) = true) (h2 : SeqAt.shaped (pd y) = true) : RV2 K (rEqU K) x y (.d (.bl (PyData.eqv (pd x) (pd y)))) := .inr (by
  intro He Ge H G σ δ v u ok rv ru Q q
  exact ⟨_, _, (rv.mono ok.gh).dp p1, (ru.mono ok.gh).dp p2, h1, h2, q _ _ (done ok .bl)⟩)
theorem ne_dat {x y : D} (p1 : pur x = true) (p2 : pur y = true) (h1 : SeqAt.shaped (pd x) = true) (h2 : SeqAt.shaped (pd y) = true) : RV2 K (rNeU K) x y (.d (.bl (!PyData.eqv (pd x) (pd y)))) := .inr (by
  intro He Ge H G σ δ v u ok rv ru Q q
  exact ⟨_, _, (rv.mono ok.gh).dp p1, (ru.mono ok.gh).dp p2, h1, h2, q _ _ (done ok .bl)⟩)
def rIsN : R2 := fun x y H Q => y = .non ∧ Q (.bl (decide (x = .non))) H
def rNotN : R2 := fun x y H Q => y = .non ∧ Q (.bl (!decide (x = .non))) H
theorem op_isN1 {X : Cx} : OpR X (compareOp .Is) rIsN := op_isN
theorem op_notN1 {X : Cx} : OpR X (compareOp .IsNot) rNotN := op_notN
def isNon : D → Bool
  | .non => true | _ => false
theorem Rp.non_iff {G : Hp} {x : D} {v : V} (h : Rp K G x v) : decide (v = .non) = isNon x := by cases h <;> simp [isNon]
theorem is_non {x : D} : RV2 K rIsN x .non (.d (.bl (isNon x))) := by
  intro He Ge H G σ δ v u ok rv ru Q q
  cases ru
  exact ⟨rfl, by rw [rv.non_iff]; exact q _ _ (done ok .bl)⟩
theorem not_non {x : D} : RV2 K rNotN x .non (.d (.bl (!isNon x))) := by
  intro He Ge H G σ δ v u ok rv ru Q q
  cases ru
  exact ⟨rfl, by rw [rv.non_iff]; exact q _ _ (done ok .bl)⟩
def tTru (K : PySem.W.Frag) (ta : TE) : TT := fun σ H Q => ta σ H fun x H' => ∃ k, TruV K x H' k ∧ Q k H'
variable {δ : List S} {te ta tb : TE} {x y : D} {s : S}
/-- a value's truth -/
inductive TrD : D → Bool → Prop
  | non : TrD .non false
  | bl (b : Bool) : TrD (.bl b) b
  | int (i : Int) : TrD (.int i) (i != 0)
  | str (x : Str) (h : x.length ≤ sizeLine) : TrD (.str x) ((x.length : Int) != 0)
  | lst (xs : List D) : TrD (.lst xs) (!xs.isEmpty)
  | tup (xs : List D) : TrD (.tup xs) (!xs.isEmpty)
theorem RpL.isEmpty {G : Hp} {xs : List D} {vs : List V} (r : RpL K G xs vs) : vs.isEmpty = xs.isEmpty := by cases r <;> rfl
theorem TrD.to {b : Bool} (h : TrD x b) {G H : Hp} {v : V} (e : Ex G H) (r : Rp K G x v) : TruV K v H b := by
  cases h with
  | non => cases r; rfl
  | bl => cases r; rfl
  | int => cases r; rfl
  | str _ h => cases r; exact ⟨h, rfl⟩
  | lst xs => cases r with | lst h r => exact .inl ⟨_, SqL.of (e _ _ h), by rw [r.isEmpty]⟩
  | tup xs => cases r with | tup h r => exact .inr (.inl ⟨_, e.t h.t, by rw [r.isEmpty]⟩)
theorem eb_tru {b : Bool} (h : EV K te δ (.d x)) (t : TrD x b) : EB K (tTru K te) δ b := by
  intro He Ge H τo τs σ hl ok Q q
  refine h He Ge H τo τs σ hl ok _ fun v H1 ⟨G, ok1⟩ => ?_
  obtain ⟨_, e1, r1⟩ := ok1.top
  cases e1
  exact ⟨b, t.to ok1.gh r1, q H1 ⟨G, ok1.pop⟩⟩
theorem ev_orT {b : Bool} {s2 : S} (h : EV K ta δ (.d x)) (t : TrD x b) (h2 : b = false → EV K tb δ s2) : EV K (tOrT K ta tb) δ (if b = true then .d x else s2) := by
  intro He Ge H τo τs σ hl ok Q q
  refine h He Ge H τo τs σ hl ok _ fun v H1 ⟨G, ok1⟩ => ?_
  obtain ⟨_, e1, r1⟩ := ok1.top
  cases e1
  refine ⟨b, t.to ok1.gh r1, ?_⟩
  cases b with
  | true => exact iteT (q v H1 ⟨G, ok1⟩)
  | false => exact iteF (h2 rfl He Ge H1 τo τs σ hl ⟨G, ok1.pop⟩ Q q)
theorem ev_andT {b : Bool} {s2 : S} (h : EV K ta δ (.d x)) (t : TrD x b) (h2 : b = true → EV K tb δ s2) : EV K (tAndT K ta tb) δ (if b = true then s2 else .d x) := by
  intro He Ge H τo τs σ hl ok Q q
  refine h He Ge H τo τs σ hl ok _ fun v H1 ⟨G, ok1⟩ => ?_
  obtain ⟨_, e1, r1⟩ := ok1.top
  cases e1
  refine ⟨b, t.to ok1.gh r1, ?_⟩
  cases b with
  | true => exact iteT (h2 rfl He Ge H1 τo τs σ hl ⟨G, ok1.pop⟩ Q q)
  | false => exact iteF (q v H1 ⟨G, ok1⟩)
theorem ev_notT {b : Bool} (h : EV K ta δ (.d x)) (t : TrD x b) : EV K (tNotT K ta) δ (.d (.bl (!b))) := by
  intro He Ge H τo τs σ hl ok Q q
  refine h He Ge H τo τs σ hl ok _ fun v H1 ⟨G, ok1⟩ => ?_
  obtain ⟨_, e1, r1⟩ := ok1.top
  cases e1
  exact ⟨b, t.to ok1.gh r1, q _ H1 ⟨G, ok1.pop.pushD .bl⟩⟩
theorem atI_len {α β : Type} {xs : List α} {vs : List β} {i : Int} {v : α} (hl : xs.length = vs.length) (h : atI xs i = some v) : ∃ j : Nat, ixN vs.length i = some j ∧ xs[j]? = some v := by
  unfold atI at h
  rw [hl] at h
  cases e : ixN vs.length i with
  | none => rw [e] at h; cases h
  | some j => rw [e] at h; exact ⟨j, rfl, h⟩
theorem RpL.atI {G : Hp} {xs : List D} {vs : List V} {i : Int} {x : D} (r : RpL K G xs vs) (h : L2.atI xs i = some x) : ∃ v, L2.atI vs i = some v ∧ Rp K G x v := by
  obtain ⟨j, e1, e2⟩ := atI_len r.length h
  obtain ⟨v, e3, rv⟩ := r.get e2
  exact ⟨v, by unfold L2.atI; rw [e1]; exact e3, rv⟩
theorem ix_lst {xs : List D} {i : Int} (h : L2.atI xs i = some x) : RV2 K (rIx K) (.lst xs) (.int i) (.d x) := by
  intro He Ge H G σ δ v u ok rv ru Q q
  cases ru
  cases rv with
  | lst hl r =>
    obtain ⟨w, e, rw_⟩ := r.atI h
    exact .inl ⟨_, _, i, w, rfl, rfl, SqL.of (ok.gh _ _ hl), e, q _ _ (done ok rw_)⟩
theorem ix_scr {xs : List D} {i : Int} (h : L2.atI xs i = some x) : RV2 K (rIx K) (.scr xs) (.int i) (.d x) := by
  intro He Ge H G σ δ v u ok rv ru Q q
  cases ru
  cases rv with
  | scr hl r =>
    obtain ⟨w, e, rw_⟩ := r.atI h
    exact .inl ⟨_, _, i, w, rfl, rfl, ok.gh.l hl, e, q _ _ (done ok rw_)⟩
theorem ix_tup {xs : List D} {i : Int} (h : L2.atI xs i = some x) : RV2 K (rIx K) (.tup xs) (.int i) (.d x) := by
  intro He Ge H G σ δ v u ok rv ru Q q
  cases ru
  cases rv with
  | tup hl r =>
    obtain ⟨w, e, rw_⟩ := r.atI h
    exact .inr (.inl ⟨_, _, i, w, rfl, rfl, ok.gh.t hl.t, e, q _ _ (done ok rw_)⟩)
theorem ix_str {z : Str} {i : Int} {c : Nat} (hz : z.length ≤ sizeLine) (h : L2.atI z.cps.toList i = some c) : RV2 K (rIx K) (.str z) (.int i) (.d (.str ⟨#[c]⟩)) := by
  intro He Ge H G σ δ v u ok rv ru Q q
  cases ru; cases rv
  exact .inr (.inr ⟨z, i, c, rfl, rfl, hz, h, q _ _ (done ok .str)⟩)
/-- len -/
theorem len_lst {xs : List D} : RVN K (fun vs H Q => ∃ x n, vs = [x] ∧ LenV K x H n ∧ Q (.int n) H) [.lst xs] (.d (.int xs.length)) := by
  intro He Ge H G σ δ vs ok r Q q
  cases r with
  | cons r0 r2 =>
    cases r2
    cases r0 with
    | lst h r => exact ⟨_, xs.length, rfl, .inl ⟨_, SqL.of (ok.gh _ _ h), r.length⟩, q _ _ (done ok .int)⟩
theorem len_scr {xs : List D} : RVN K (fun vs H Q => ∃ x n, vs = [x] ∧ LenV K x H n ∧ Q (.int n) H) [.scr xs] (.d (.int xs.length)) := by
  intro He Ge H G σ δ vs ok r Q q
  cases r with
  | cons r0 r2 =>
    cases r2
    cases r0 with
    | scr h r => exact ⟨_, xs.length, rfl, .inl ⟨_, ok.gh.l h, r.length⟩, q _ _ (done ok .int)⟩
theorem len_tup {xs : List D} : RVN K (fun vs H Q => ∃ x n, vs = [x] ∧ LenV K x H n ∧ Q (.int n) H) [.tup xs] (.d (.int xs.length)) := by
  intro He Ge H G σ δ vs ok r Q q
  cases r with
  | cons r0 r2 =>
    cases r2
    cases r0 with
    | tup h r => exact ⟨_, xs.length, rfl, .inr ⟨_, ok.gh.t h.t, r.length⟩, q _ _ (done ok .int)⟩
theorem len_str {z : Str} (hz : z.length ≤ sizeLine) : RVN K (fun vs H Q => ∃ x n, vs = [x] ∧ LenV K x H n ∧ Q (.int n) H) [.str z] (.d (.int z.length)) := by
  intro He Ge H G σ δ vs ok r Q q
  cases r with
  | cons r0 r2 => cases r2; cases r0; exact ⟨_, z.length, rfl, ⟨hz, rfl⟩, q _ _ (done ok .int)⟩
theorem min2 {i j : Int} : RVN K (fun xs H Q => ∃ i j, xs = [.int i, .int j] ∧ Q (.int (if j < i then j else i)) H) [.int i, .int j] (.d (.int (min i j))) := by
  intro He Ge H G σ δ vs ok r Q q
  cases r with
  | cons r0 r2 =>
    cases r0
    cases r2 with
    | cons r0 r2 =>
      cases r0; cases r2
      have e : (if j < i then j else i) = min i j := by split <;> omega
      exact ⟨i, j, rfl, by rw [e]; exact q _ _ (done ok .int)⟩
theorem all_bls {bs : List Bool} : RVN K (rAll K) [.lst (bs.map .bl)] (.d (.bl (bs.all id))) := by
  intro He Ge H G σ δ vs ok r Q q
  cases r with
  | cons r0 r2 =>
    cases r2
    cases r0 with
    | lst h r =>
      have e : ∀ {bs : List Bool} {vs : List V}, RpL K G (bs.map .bl) vs → vs = bs.map V.bl := by
        intro bs
        induction bs with
        | nil => intro vs r; cases r; rfl
        | cons b bs ih => intro vs r; cases r with | cons r0 r => cases r0; rw [ih r]; rfl
      have := e r
      subst this
      exact ⟨_, bs, rfl, SqL.of (ok.gh _ _ h), q _ _ (done ok .bl)⟩
def tyN : D → String
  | .non => "NoneType" | .bl _ => "bool" | .int _ => "int" | .str _ => "str" | .tup _ => "tuple" | .utp _ => "object" | .lst _ => "list" | .scr _ => "list" | .ty _ => "type" | .cls _ => "type" | .ins _ _ => "object" | .dK _ => "dict" | .dP _ => "dict" | .dO _ => "dict" | .exc _ _ => "object" | .lam _ _ _ _ _ => "function"
def known : D → Bool
  | .non => true | .bl _ => true | .int _ => true | .str _ => true | .tup _ => true | .lst _ => true | .dK _ => true | .dP _ => true | _ => false
def isTy (x : D) (n : String) : Bool := (kitB (tyN x) n).getD false
theorem known_ty {G H : Hp} {v : V} (hk : known x = true) (e : Ex G H) (r : Rp K G x v) : TyX K H v (.type (tyN x)) := by
  cases r with
  | non => exact .base .non
  | bl => exact .base (.bl _)
  | int => exact .base (.int _)
  | str => exact .base (.str _)
  | tup h r =>
    rcases h.t with (h | ⟨o, h⟩) | ⟨o, its, n, h1, h2, _⟩
    · exact .base (.tup (e _ _ h))
    · exact .fTuple (e _ _ h)
    · exact .kTuple h1 h2
  | lst h r => exact .base (.lst (e _ _ h))
  | dK h r => exact .base (.dK (e _ _ h))
  | dP h r => exact .fDict (e _ _ h)
  | _ => simp [known] at hk
end
end Far
namespace Far
open PySem L2 PyProof.Rows
section
variable {X : Cx}
theorem PI.or {tg l : Expr} {a b : TI} (h : PI X tg l a) (h' : PI X tg l b) : PI X tg l (fun σ H R => a σ H R ∨ b σ H R) := ⟨fun pins s σ H R I q => q.elim (h.run pins s σ H R I) (h'.run pins s σ H R I)⟩
theorem PG.or {tg : Expr} {a b : TG} (h : PG X tg a) (h' : PG X tg b) : PG X tg (fun v σ H Q => a v σ H Q ∨ b v σ H Q) := ⟨fun pins s σ H v u Q I r q => q.elim (h.run pins s σ H v u Q I r) (h'.run pins s σ H v u Q I r)⟩
def iSeq (K : PySem.W.Frag) (te : TE) : TI := fun σ H R => iList K te σ H R ∨ iTup K te σ H R
theorem pi_seq {tg l : Expr} {te : TE} (h : PE X l te) : PI X tg l (iSeq X.K te) := PI.or (pi_list h) (pi_tup h)
def gSeq (K : PySem.W.Frag) (n : Nat) (gs : TGs) : TG := fun v σ H Q => gTup K n gs v σ H Q ∨ gLst K n gs v σ H Q
section
open PySem.Spec PyProof.Rows
end
abbrev rLenU (K : PySem.W.Frag) : List V → Hp → VK → Prop := fun xs H Q => ∃ x n, xs = [x] ∧ LenV K x H n ∧ Q (.int n) H
abbrev rMn2 : List V → Hp → VK → Prop := fun xs H Q => ∃ i j, xs = [.int i, .int j] ∧ Q (.int (if j < i then j else i)) H
/-- t[lo:hi]: the whole of it is t itself -/
def rSlP (K : PySem.W.Frag) : V → Option Int → Option Int → Hp → VK → Prop := fun x lo hi H Q => ∃ a xs, x = .ref a ∧ SqT K H a xs ∧
  (HT.sIx xs.length 0 lo = 0 ∧ HT.sIx xs.length xs.length hi = xs.length → Q (.ref a) H) ∧ (¬ (HT.sIx xs.length 0 lo = 0 ∧ HT.sIx xs.length xs.length hi = xs.length) → NewT H (cutV xs lo hi) Q)
section
open PySem.Spec PyProof.Rows
theorem sl_tupP {X : Cx} : SlR X (rSlP X.K) := by
  intro pins s σ H x v vl vu lo hi sl Q I rx hs pl pu h
  obtain ⟨a, xs, rfl, hx, q1, q2⟩ := h
  cases rx
  obtain ⟨its, r, ht, hz⟩ := I.tuple hx
  have hlen : its.toArray.size = xs.length := by rw [List.size_toArray]; exact r.length.symm
  refine ⟨"tuple", _, PyProof.Rows.slot_tuple_getitem.lookup, ht.typeIs, ?_⟩
  by_cases hw : HT.sIx xs.length 0 lo = 0 ∧ HT.sIx xs.length xs.length hi = xs.length
  · exact getItem_tuple_whole ht hs pl pu (by rw [hlen]; exact hw) ⟨.ref a, H, I, rfl, q1 hw⟩
  · refine HT.getItem_tuple_cut ht hs pl pu (by rw [hlen]; exact hw) ?_ (by rw [hlen]; exact hz)
    rw [hlen]
    refine ⟨.ref s.heap.objs.size, _, I.laid (t' := s.toks) (o := .frz _ (.tup (cutV xs lo hi))) (fun b ob q => Heap.get?_push_of_some _ q) (Nat.le_refl _) ⟨Heap.get?_push_size _ rfl, Nat.le_trans (cutV_length xs lo hi) hz, _, (r.drop (HT.sIx xs.length 0 lo)).take (HT.sIx xs.length xs.length hi - HT.sIx xs.length 0 lo), IsTup.new _ _⟩, rfl, ?_⟩
    exact q2 hw _ _ (I.hok.fresh (Nat.le_refl _)) rfl rfl
end
def rSlU (K : PySem.W.Frag) : V → Option Int → Option Int → Hp → VK → Prop := fun x lo hi H Q => rSlL K x lo hi H Q ∨ (rSlP K x lo hi H Q ∨ rSlS x lo hi H Q)
theorem sl_U : SlR X (rSlU X.K) := SlR.or sl_list (SlR.or sl_tupP sl_str)
def rInU (K : PySem.W.Frag) : R2 := fun x y H Q => rIn K false x y H Q ∨ ∃ i j, x = .str i ∧ y = .str j ∧ Q (.bl (!(Builtin.Str.occurrences j i 0 j.length 1).isEmpty)) H
def rNotInU (K : PySem.W.Frag) : R2 := fun x y H Q => rIn K true x y H Q ∨ ∃ i j, x = .str i ∧ y = .str j ∧ Q (.bl (!(!(Builtin.Str.occurrences j i 0 j.length 1).isEmpty))) H
theorem op_inU : OpR X (compareOp .In) (rInU X.K) := OpR.or op_in_seq op_in_str
theorem op_notInU : OpR X (compareOp .NotIn) (rNotInU X.K) := OpR.or op_notIn_seq op_notIn_str
end
section
variable {K : PySem.W.Frag} {δ : List S} {te ta tb : TE} {x y : D} {s : S} {xs ys : List D}
theorem ei_seqL (h : EV K te δ (.d (.lst xs))) : EI K (iSeq K te) δ xs := fun He Ge H τo τs σ hl ok R q => .inl (ei_list h He Ge H τo τs σ hl ok R q)
theorem ei_seqT (h : EV K te δ (.d (.tup xs))) : EI K (iSeq K te) δ xs := fun He Ge H τo τs σ hl ok R q => .inr (ei_tup h He Ge H τo τs σ hl ok R q)
theorem et_seqT {n : Nat} {gs : TGs} {δ' : List S} (h : ETs K gs δ xs δ') (hn : xs.length = n) : ET K (gSeq K n gs) δ (.tup xs) δ' := fun He Ge H G τo τs σ v hl ok r Q q => .inl (et_tup h hn He Ge H G τo τs σ v hl ok r Q q)
theorem et_seqL {n : Nat} {gs : TGs} {δ' : List S} (h : ETs K gs δ xs δ') (hn : xs.length = n) : ET K (gSeq K n gs) δ (.lst xs) δ' := fun He Ge H G τo τs σ v hl ok r Q q => .inr (et_lst h hn He Ge H G τo τs σ v hl ok r Q q)
theorem gok_seq {n : Nat} {gs : TGs} {vs : List Nat} (h : GsOk gs vs) : GOk (gSeq K n gs) vs := fun v σ H Q q => q.imp (fun ⟨a, xs, e, h1, h2, q⟩ => ⟨a, xs, e, h1, h2, h xs σ H Q q⟩) fun ⟨a, xs, e, h1, h2, q⟩ => ⟨a, xs, e, h1, h2, h xs σ H Q q⟩
theorem ev_dnew : EV K tDNewK δ (.d (.dK [])) := by
  intro He Ge H τo τs σ hl ⟨G, ok⟩ Q q
  intro p hp
  exact q _ _ ⟨_, (ok.newG hp).pushD (.dK upd_same .nil)⟩
variable {t : TT} {b : Bool}
theorem RpL.cut {G : Hp} {xs : List D} {vs : List V} (r : RpL K G xs vs) (lo hi : Option Int) : RpL K G ((xs.drop (HT.sIx xs.length 0 lo)).take (HT.sIx xs.length xs.length hi - HT.sIx xs.length 0 lo)) (cutV vs lo hi) := by
  unfold cutV
  rw [r.length]
  exact (r.drop _).take _
def cutD (xs : List D) (lo hi : Option Int) : List D := (xs.drop (HT.sIx xs.length 0 lo)).take (HT.sIx xs.length xs.length hi - HT.sIx xs.length 0 lo)
def EO (K : PySem.W.Frag) (to : TO) (δ : List S) (o : Option Int) : Prop := ∀ (He Ge H : Hp) (τo : L2.St) (τs : List S) (σ : L2.St), τo.length = τs.length → OK K He Ge H (τo ++ σ) (τs ++ δ) →
  ∀ Q : Option Int → Hp → Prop, (∀ H', OK K He Ge H' (τo ++ σ) (τs ++ δ) → Q o H') → to σ H Q
theorem eo_none : EO K tNoPart δ none := fun He Ge H τo τs σ hl ok Q q => q H ok
theorem eo_some {i : Int} (h : EV K te δ (.d (.int i))) : EO K (tPart te) δ (some i) := by
  intro He Ge H τo τs σ hl ok Q q
  refine h He Ge H τo τs σ hl ok _ fun v H1 ⟨G, ok1⟩ => ?_
  obtain ⟨_, e, r⟩ := ok1.top
  cases e; cases r
  exact ⟨i, rfl, q H1 ⟨G, ok1.pop⟩⟩
variable {tl th : TO} {lo hi : Option Int}
theorem ev_slG {r : V → Option Int → Option Int → Hp → VK → Prop} (h : EV K te δ (.d x)) (h1 : EO K tl δ lo) (h2 : EO K th δ hi)
    (hr : ∀ (He Ge H G : Hp) (σ : L2.St) (δ : List S) (v : V), OKG K He Ge H G σ δ → Rp K G x v → ∀ Q : VK, (∀ z H', OK K He Ge H' (some z :: σ) (s :: δ) → Q z H') → r v lo hi H Q) : EV K (tSl r te tl th) δ s := by
  intro He Ge H τo τs σ hl ok Q q
  refine h He Ge H τo τs σ hl ok _ fun v H1 ok1 => ?_
  refine h1 He Ge H1 (some v :: τo) (.d x :: τs) σ (by simp [hl]) ok1 _ fun H2 ok2 => ?_
  refine h2 He Ge H2 (some v :: τo) (.d x :: τs) σ (by simp [hl]) ok2 _ fun H3 ⟨G, ok3⟩ => ?_
  obtain ⟨_, e, rr⟩ := ok3.top
  cases e
  exact hr He Ge H3 G _ _ v ok3.pop rr Q q
theorem ev_slL (h : EV K te δ (.d (.lst xs))) (h1 : EO K tl δ lo) (h2 : EO K th δ hi) : EV K (tSl (rSlU K) te tl th) δ (.own (cutD xs lo hi)) := ev_slG h h1 h2 fun He Ge H G σ δ v ok r Q q => by
  cases r with
  | lst hh rr => exact .inl ⟨_, _, rfl, SqL.of (ok.gh _ _ hh), fun p hp => q _ _ (doneL ok hp (rr.cut lo hi))⟩
theorem ev_slT (h : EV K te δ (.d (.tup xs))) (h1 : EO K tl δ lo) (h2 : EO K th δ hi) : EV K (tSl (rSlU K) te tl th) δ (.d (.tup (cutD xs lo hi))) := ev_slG h h1 h2 fun He Ge H G σ δ v ok r Q q => by
  cases r with
  | tup hh rr =>
    refine .inr (.inl ⟨_, _, rfl, ok.gh.t hh.t, fun ⟨e1, e2⟩ => ?_, fun _ p o hp hc hd => q _ _ (doneT ok hp hc hd (rr.cut lo hi))⟩)
    rw [← rr.length] at e1 e2
    have e : cutD xs lo hi = xs := by unfold cutD; rw [e1, e2, List.drop_zero, Nat.sub_zero, List.take_length]
    rw [e] at q
    exact q _ _ (done ok (.tup hh rr))
theorem ev_slS {z : Str} (h : EV K te δ (.d (.str z))) (h1 : EO K tl δ lo) (h2 : EO K th δ hi) (hz : z.length ≤ sizeLine) : EV K (tSl (rSlU K) te tl th) δ (.d (.str (cutS z lo hi))) := ev_slG h h1 h2 fun He Ge H G σ δ v ok r Q q => by
  cases r
  exact .inr (.inr ⟨z, rfl, hz, q _ _ (done ok .str)⟩)
end
end Far
namespace Far
open PySem L2
@[simp] theorem isTy_non_int : isTy .non "int" = false := by show (kitB "NoneType" "int").getD false = false; decide +kernel
@[simp] theorem isTy_non_bool : isTy .non "bool" = false := by show (kitB "NoneType" "bool").getD false = false; decide +kernel
@[simp] theorem isTy_non_tuple : isTy .non "tuple" = false := by show (kitB "NoneType" "tuple").getD false = false; decide +kernel
@[simp] theorem isTy_non_list : isTy .non "list" = false := by show (kitB "NoneType" "list").getD false = false; decide +kernel
@[simp] theorem isTy_non_str : isTy .non "str" = false := by show (kitB "NoneType" "str").getD false = false; decide +kernel
@[simp] theorem isTy_bl_int {b : Bool} : isTy (.bl b) "int" = true := by show (kitB "bool" "int").getD false = true; decide +kernel
@[simp] theorem isTy_bl_bool {b : Bool} : isTy (.bl b) "bool" = true := by show (kitB "bool" "bool").getD false = true; decide +kernel
@[simp] theorem isTy_bl_tuple {b : Bool} : isTy (.bl b) "tuple" = false := by show (kitB "bool" "tuple").getD false = false; decide +kernel
@[simp] theorem isTy_bl_list {b : Bool} : isTy (.bl b) "list" = false := by show (kitB "bool" "list").getD false = false; decide +kernel
@[simp] theorem isTy_bl_str {b : Bool} : isTy (.bl b) "str" = false := by show (kitB "bool" "str").getD false = false; decide +kernel
@[simp] theorem isTy_int_int {i : Int} : isTy (.int i) "int" = true := by show (kitB "int" "int").getD false = true; decide +kernel
@[simp] theorem isTy_int_bool {i : Int} : isTy (.int i) "bool" = false := by show (kitB "int" "bool").getD false = false; decide +kernel
@[simp] theorem isTy_int_tuple {i : Int} : isTy (.int i) "tuple" = false := by show (kitB "int" "tuple").getD false = false; decide +kernel
@[simp] theorem isTy_int_list {i : Int} : isTy (.int i) "list" = false := by show (kitB "int" "list").getD false = false; decide +kernel
@[simp] theorem isTy_int_str {i : Int} : isTy (.int i) "str" = false := by show (kitB "int" "str").getD false = false; decide +kernel
@[simp] theorem isTy_str_int {x : Str} : isTy (.str x) "int" = false := by show (kitB "str" "int").getD false = false; decide +kernel
@[simp] theorem isTy_str_bool {x : Str} : isTy (.str x) "bool" = false := by show (kitB "str" "bool").getD false = false; decide +kernel
@[simp] theorem isTy_str_tuple {x : Str} : isTy (.str x) "tuple" = false := by show (kitB "str" "tuple").getD false = false; decide +kernel
@[simp] theorem isTy_str_list {x : Str} : isTy (.str x) "list" = false := by show (kitB "str" "list").getD false = false; decide +kernel
@[simp] theorem isTy_str_str {x : Str} : isTy (.str x) "str" = true := by show (kitB "str" "str").getD false = true; decide +kernel
@[simp] theorem isTy_tup_int {xs : List D} : isTy (.tup xs) "int" = false := by show (kitB "tuple" "int").getD false = false; decide +kernel
@[simp] theorem isTy_tup_bool {xs : List D} : isTy (.tup xs) "bool" = false := by show (kitB "tuple" "bool").getD false = false; decide +kernel
@[simp] theorem isTy_tup_tuple {xs : List D} : isTy (.tup xs) "tuple" = true := by show (kitB "tuple" "tuple").getD false = true; decide +kernel
@[simp] theorem isTy_tup_list {xs : List D} : isTy (.tup xs) "list" = false := by show (kitB "tuple" "list").getD false = false; decide +kernel
@[simp] theorem isTy_tup_str {xs : List D} : isTy (.tup xs) "str" = false := by show (kitB "tuple" "str").getD false = false; decide +kernel
@[simp] theorem isTy_lst_int {xs : List D} : isTy (.lst xs) "int" = false := by show (kitB "list" "int").getD false = false; decide +kernel
@[simp] theorem isTy_lst_bool {xs : List D} : isTy (.lst xs) "bool" = false := by show (kitB "list" "bool").getD false = false; decide +kernel
@[simp] theorem isTy_lst_tuple {xs : List D} : isTy (.lst xs) "tuple" = false := by show (kitB "list" "tuple").getD false = false; decide +kernel
@[simp] theorem isTy_lst_list {xs : List D} : isTy (.lst xs) "list" = true := by show (kitB "list" "list").getD false = true; decide +kernel
@[simp] theorem isTy_lst_str {xs : List D} : isTy (.lst xs) "str" = false := by show (kitB "list" "str").getD false = false; decide +kernel
theorem isTy_dK_int {kvs : List (Key × D)} : isTy (.dK kvs) "int" = false := by show (kitB "dict" "int").getD false = false; decide +kernel
theorem isTy_dK_bool {kvs : List (Key × D)} : isTy (.dK kvs) "bool" = false := by show (kitB "dict" "bool").getD false = false; decide +kernel
theorem isTy_dK_tuple {kvs : List (Key × D)} : isTy (.dK kvs) "tuple" = false := by show (kitB "dict" "tuple").getD false = false; decide +kernel
theorem isTy_dK_list {kvs : List (Key × D)} : isTy (.dK kvs) "list" = false := by show (kitB "dict" "list").getD false = false; decide +kernel
theorem isTy_dK_str {kvs : List (Key × D)} : isTy (.dK kvs) "str" = false := by show (kitB "dict" "str").getD false = false; decide +kernel
theorem isTy_dP_int {kvs : List (Key × D)} : isTy (.dP kvs) "int" = false := by show (kitB "dict" "int").getD false = false; decide +kernel
theorem isTy_dP_bool {kvs : List (Key × D)} : isTy (.dP kvs) "bool" = false := by show (kitB "dict" "bool").getD false = false; decide +kernel
theorem isTy_dP_tuple {kvs : List (Key × D)} : isTy (.dP kvs) "tuple" = false := by show (kitB "dict" "tuple").getD false = false; decide +kernel
theorem isTy_dP_list {kvs : List (Key × D)} : isTy (.dP kvs) "list" = false := by show (kitB "dict" "list").getD false = false; decide +kernel
theorem isTy_dP_str {kvs : List (Key × D)} : isTy (.dP kvs) "str" = false := by show (kitB "dict" "str").getD false = false; decide +kernel
theorem tyN_mem {x : D} (h : known x = true) : tyN x ∈ ["NoneType", "bool", "int", "str", "tuple", "list", "dict"] := by
  cases x <;> first | (simp [known] at h; done) | (simp [tyN])
theorem kit_all : ∀ t ∈ ["NoneType", "bool", "int", "str", "tuple", "list", "dict"], ∀ n ∈ ["int", "bool", "tuple", "list", "str"], (kitB t n).isSome = true := by decide +kernel
theorem kit_any {x : D} {n : String} (h : known x = true) (hn : n ∈ ["int", "bool", "tuple", "list", "str"]) : (kitB (tyN x) n).isSome = true := kit_all _ (tyN_mem h) _ hn
theorem cdiv_small {i j : Int} (h : 0 < j) (h2 : j < 1073741824) : CDivW i j := wide_div (b := 30) h (by rw [show (2:Nat)^30 = 1073741824 from by decide]; omega) (by decide) (by decide)
section
variable {K : PySem.W.Frag} {δ : List S} {te : TE} {wi : TI} {g : TG} {tt : TT} {vs : List Nat}
theorem eb_yes : EB K tYes δ true := fun He Ge H τo τs σ hl ok Q q => q H ok
theorem ev_lcF {ys : List D} {p : D → Bool} {f : D → D} (hi : EI K wi δ ys) (hg : GOk g vs) (hz : ys.length ≤ sizeLine) (k : ∀ y ∈ ys, ∃ δ2, ET K g (hide δ vs) y δ2 ∧ EB K tt δ2 (p y) ∧ (p y = true → EV K te δ2 (.d (f y)))) : EV K (tLc wi g tt te vs) δ (.own ((ys.filter p).map f)) :=
  ev_lc (h := id) (ei_is hi (List.map_id _).symm) hg hz k
theorem sz {n : Nat} (h : n ≤ 16777216) : n ≤ sizeLine := by rw [sizeLine_eq]; exact h
/-- an item at a place that is not written -/
theorem atI_getD {α : Type} {xs : List α} {i : Int} {d : α} (h0 : 0 ≤ i) (h1 : i < xs.length) : L2.atI xs i = some (xs.getD i.toNat d) := by
  have h2 : i.toNat < xs.length := by omega
  have e : i = ((i.toNat : Nat) : Int) := by omega
  rw [e]
  refine L2.atI_nat ?_
  rw [Int.toNat_natCast, List.getElem?_eq_getElem h2, List.getD_eq_getElem?_getD, List.getElem?_eq_getElem h2]; rfl
/-- .. of a list of ints -/
theorem atI_ints {xs : List Int} {i : Int} (h0 : 0 ≤ i) (h1 : i < xs.length) : L2.atI (xs.map D.int) i = some (.int (xs.getD i.toNat 0)) := by
  rw [atI_getD (d := D.int 0) h0 (by rw [List.length_map]; exact h1)]
  congr 1
  rw [List.getD_eq_getElem?_getD, List.getElem?_map, List.getD_eq_getElem?_getD]
  cases xs[i.toNat]? <;> rfl
mutual
theorem pur_lay : ∀ {x : D}, pur x = true → (pd x).canLay0 = true
  | .non, _ => by simp [pd, PyData.canLay0]
  | .bl _, _ => by simp [pd, PyData.canLay0]
  | .int _, _ => by simp [pd, PyData.canLay0]
  | .str _, h => by simpa [pd, PyData.canLay0, pur] using h
  | .tup xs, h => by simp only [pd, PyData.canLay0]; exact purL_lay (by simpa [pur] using h)
  | .lst xs, h => by simp only [pd, PyData.canLay0]; exact purL_lay (by simpa [pur] using h)
  | .scr xs, h => by simp only [pd, PyData.canLay0]; exact purL_lay (by simpa [pur] using h)
  | .ty _, h => by simp [pur] at h
  | .cls _, h => by simp [pur] at h
  | .ins _ _, h => by simp [pur] at h
  | .dK _, h => by simp [pur] at h
  | .dP _, h => by simp [pur] at h
theorem purL_lay : ∀ {xs : List D}, purL xs = true → PyData.canLayAll0 (pdL xs) = true
  | [], _ => by simp [pdL, PyData.canLayAll0]
  | x :: xs, h => by
    simp only [purL, Bool.and_eq_true] at h
    simp only [pdL, PyData.canLayAll0, Bool.and_eq_true]
    exact ⟨pur_lay h.1, purL_lay h.2⟩
end
theorem shaped_of {x : D} (h : pur x = true) (hd : (pd x).depth ≤ 64) : SeqAt.shaped (pd x) = true := by
  unfold SeqAt.shaped; rw [pur_lay h]; simpa using hd
def eqD (x y : D) : Bool := PyData.eqv (pd x) (pd y)
theorem eq_D {x y : D} (p1 : pur x = true) (p2 : pur y = true) (h1 : (pd x).depth ≤ 64) (h2 : (pd y).depth ≤ 64) : RV2 K (rEqU K) x y (.d (.bl (eqD x y))) := eq_dat p1 p2 (shaped_of p1 h1) (shaped_of p2 h2)
theorem ne_D {x y : D} (p1 : pur x = true) (p2 : pur y = true) (h1 : (pd x).depth ≤ 64) (h2 : (pd y).depth ≤ 64) : RV2 K (rNeU K) x y (.d (.bl (!eqD x y))) := ne_dat p1 p2 (shaped_of p1 h1) (shaped_of p2 h2)
theorem pur_ints : ∀ ns : List Int, purL (ns.map D.int) = true
  | [] => rfl
  | n :: r => by simp [purL, pur, pur_ints r]
theorem depth_intsD : ∀ ns : List Int, PyData.depthAll (pdL (ns.map D.int)) = 0
  | [] => by simp [pdL, PyData.depthAll]
  | n :: r => by simp [pdL, pd, PyData.depthAll, PyData.depth, depth_intsD r]
theorem eqv_nil (xs : List D) : PyData.eqvAll (pdL xs) [] = xs.isEmpty := by cases xs <;> simp [pdL, PyData.eqvAll]
theorem ne_scr_nil {ns : List Int} : RV2 K (rNeU K) (.scr (ns.map .int)) (.lst []) (.d (.bl (!ns.isEmpty))) := by
  have z := ne_D (K := K) (x := .scr (ns.map .int)) (y := .lst []) (by simp [pur, pur_ints]) rfl (by simp [pd, PyData.depth, depth_intsD]) (by simp [pd, pdL, PyData.depth, PyData.depthAll])
  have e : eqD (.scr (ns.map .int)) (.lst []) = ns.isEmpty := by
    simp only [eqD, pd, pdL, PyData.eqv]
    rw [eqv_nil]; cases ns <;> rfl
  rwa [e] at z
theorem weak_refl {δ : List S} : weak δ δ := fun i s h => .inl h
/-- slot by slot -/
inductive WK : List S → List S → Prop
  | nil : WK [] []
  | same {s : S} {r t : List S} : WK r t → WK (s :: r) (s :: t)
  | un {s : S} {r t : List S} : WK r t → WK (s :: r) (.un :: t)
theorem weak_cons {s t : S} {a b : List S} (h : s = t ∨ t = .un) (r : weak a b) : weak (s :: a) (t :: b) := fun i u e => by
  cases i with
  | zero =>
    simp at e
    rcases h with rfl | rfl
    · exact .inl (by simp [e])
    · exact .inr ⟨e.symm, s, rfl⟩
  | succ i =>
    simp at e
    rcases r i u e with q | ⟨q1, t, q2⟩
    · exact .inl (by simpa using q)
    · exact .inr ⟨q1, t, by simpa using q2⟩
theorem WK.weak : ∀ {a b : List S}, WK a b → Far.weak a b
  | _, _, .nil => weak_refl
  | _, _, .same r => weak_cons (.inl rfl) (WK.weak r)
  | _, _, .un r => weak_cons (.inr rfl) (WK.weak r)
variable {E : WX} {N B C : List S → Prop} {R : S → List S → Prop} {X : List S → Addr → List (Str × D) → Prop} {tb : TS}
theorem range_get {n i y : Nat} (h : (List.range n)[i]? = some y) : i < n ∧ y = i := by
  obtain ⟨q, e⟩ := List.getElem?_eq_some_iff.mp h
  simp at q e; exact ⟨q, e.symm⟩
theorem emod_in (c : Int) {m : Int} (h : 0 < m) : 0 ≤ c % m ∧ c % m < m := ⟨Int.emod_nonneg c (by omega), Int.emod_lt_of_pos c h⟩
mutual
theorem eqv_self : ∀ {x : D}, pur x = true → PyData.eqv (pd x) (pd x) = true
  | .non, _ => by simp [pd, PyData.eqv]
  | .bl _, _ => by simp [pd, PyData.eqv]
  | .int _, _ => by simp [pd, PyData.eqv]
  | .str _, _ => by simp [pd, PyData.eqv]
  | .tup xs, h => by simp only [pd, PyData.eqv]; exact eqv_selfL (by simpa [pur] using h)
  | .lst xs, h => by simp only [pd, PyData.eqv]; exact eqv_selfL (by simpa [pur] using h)
  | .scr xs, h => by simp only [pd, PyData.eqv]; exact eqv_selfL (by simpa [pur] using h)
  | .ty _, h => by simp [pur] at h
  | .cls _, h => by simp [pur] at h
  | .ins _ _, h => by simp [pur] at h
  | .dK _, h => by simp [pur] at h
  | .dP _, h => by simp [pur] at h
theorem eqv_selfL : ∀ {xs : List D}, purL xs = true → PyData.eqvAll (pdL xs) (pdL xs) = true
  | [], _ => by simp [pdL, PyData.eqvAll]
  | x :: xs, h => by
    simp only [purL, Bool.and_eq_true] at h
    simp only [pdL, PyData.eqvAll, Bool.and_eq_true]
    exact ⟨eqv_self h.1, eqv_selfL h.2⟩
end
end
end Far
namespace Far
open PySem L2 PySem.Spec PyProof.Rows
/-- what 'except X as n: m = n' asks of an exception of the body (n in slot i, m in slot j): it is of that class; then it is kept -/
def wKeep (K : PySem.W.Frag) (c : Value) (i j : Nat) (D : Ends) : WX := fun cls d σ H =>
  PySem.W.exmOne K cls c = some true ∧ ∀ a, H a = none → D.nx (((σ.set i (some (.ref a))).set j (some (.ref a))).set i none) (upd H a (ExK cls d a))
def tTryK (K : PySem.W.Frag) (c : Value) (i j : Nat) (tb : WX → TS) : TS := fun D σ H => tb (wKeep K c i j D) D σ H
section
variable {X : Cx} {pins : List (Addr × Obj)} {σ : L2.St} {H : Hp} {s : Shared}
/-- an object that lies there already, of ours, is tracked from now on -/
theorem inv_track {a : Addr} {cls : Value} {d : Option Addr} {oe : Obj} {vs : Array Value} (I : Inv X pins σ H s) (hx : X.ex = []) (n0 : X.s_0.heap.get? a = none) (na : H a = none) (e : s.heap.get? a = some oe) (z : Zc cls d oe) (dd : oe.data = .fields vs)
    (nL : a ≠ X.env.locals) (nC : ∀ x c, X.env.cells.lookup x = some c → c ≠ a) (nP : ∀ p ∈ X.pn ++ pins, p.1 ≠ a) : Inv X pins σ (upd H a (ExK cls d a)) s := by
  have ne0 : ∀ b o, X.s_0.heap.get? b = some o → b ≠ a := fun b o q y => by rw [y, n0] at q; cases q
  have keepN : ∀ b, b ≠ a → H b = none → upd H a (ExK cls d a) b = none := fun b q n => by rw [upd_ne q]; exact n
  refine ⟨I.ok, I.os, I.bare, ⟨I.base.keep, I.base.slot, fun b o q n hq => keepN b (ne0 b o q) (I.base.free b o q n hq), I.base.there, fun b xs q => ?_, fun b o u q => ?_, fun b ps q => ?_⟩, I.loc, I.cell, keepN _ (Ne.symm nL) I.free, fun x c q => keepN c (nC x c q) (I.freeC x c q), fun p hp => ?_, fun b u q => ?_, I.len⟩
  · rw [upd_ne (ne_of_none (I.base.tups b xs q) na)]; exact I.base.tups b xs q
  · rw [upd_ne (ne_of_none (I.base.frzs b o u q) na)]; exact I.base.frzs b o u q
  · obtain ⟨m, q2⟩ := I.base.tbls b ps q
    exact ⟨m, by rw [upd_ne (ne_of_none q2 na)]; exact q2⟩
  · obtain ⟨e1, n, ne, nf, d1⟩ := I.pin p hp
    exact ⟨e1, keepN _ (nP p hp) n, ne, nf, d1⟩
  · by_cases hb : b = a
    · subst hb
      rw [upd_same] at q
      cases q
      exact ⟨⟨oe, vs, e, z, dd⟩, ⟨oe, e⟩, fun _ _ ⟨o, v, q1, r⟩ k => ⟨o, v, k o q1, r⟩⟩
    · rw [upd_ne hb] at q
      exact (I.hok b u q).stay (fun c v _ q => q) (fun c q => by rw [upd_ne (ne_of_none q na)]; exact q) fun c xs q => by rw [upd_ne (ne_of_none q na)]; exact q
end
section
variable {X : Cx} {x n m : Str} {c : Value} {i j : Nat} {body : List Stmt} {np np2 mp ap pos pos' : Pos} {tb : WX → TS}
theorem ps_try_keep (hs : X.stack = X.env :: X.outer) (hf : X.env.frame = some X.env.locals) (hex : X.ex = []) (hN : X.N.Nodup) (hi : X.N[i]? = some n) (hj : X.N[j]? = some m) (hln : X.env.kindOf n = some .local) (hlm : Loc X.env.scope m) (hc : Names X x c)
    (hb : ∀ (W : WX) (pn : List (Addr × Obj)) (xe : Value → Shared → Prop), Takes (X.tr pn xe) W → PassesOwn (model X.prog X.w) X.A X.env xe → PSs (X.tr pn xe) body (tb W))
    (hsu : ∀ (a : Addr) (oe : Obj) (pn : List (Addr × Obj)), PSs (X.suite a ((a, oe) :: pn)) [.Assign [.Name m mp] (.Name n np2) ap] (tAsg (tVar i) (gName j))) :
    PS X (.Try body [.ExceptHandler (some (.Name x np)) (some n) [.Assign [.Name m mp] (.Name n np2) ap] pos'] [] [] pos) (tTryK X.K c i j tb) := by
  refine ⟨fun pins s σ H D I h => ?_⟩
  have ok := I.ok
  have hfr : X.A.frames = some (X.env :: X.outer) := by rw [ok.frames, hs]
  have hloc : Loc X.env.scope n := .inl hln
  refine wpAny_Try_except ?_
  refine wpAny_mono ((hb (wKeep X.K c i j D) (X.pn ++ pins) (fun e s₁ => wpAny (model X.prog X.w) X.A (noteFrame e X.env) (fun _ s₂ => wpAny (model X.prog X.w) X.A (setFlight e none) (fun _ s₃ =>
    wpAny (model X.prog X.w) X.A (handleBy e X.env [.ExceptHandler (some (.Name x np)) (some n) [.Assign [.Name m mp] (.Name n np2) ap] pos']) (SP X pins D) X.xe s₃) X.xe s₂) X.xe s₁) (fun u s' xx => ?_) PassesOwn.looking).run [] s σ H D (I.toTry _) h) (fun f s1 hsp => ?_) (fun e s1 he => he)
  · obtain ⟨a, B, sI, pins', σ', H', cls, d, rfl, J', nb, up, sky, na, os, ag, hb1, hyes⟩ := xx
    have J : Inv X pins σ' H' sI := J'.ofTry ok
    have sky' : Sky B (X.env :: X.outer) a (Zc cls d) X.env.locals s'.heap := by rw [← hs]; exact sky
    show wpAny (model X.prog X.w) X.A (noteFrame (.ref a) X.env) _ _ _
    refine Sky.land Zc.steady hfr hf sky' fun h3 fl3 up3 => ?_
    have J3 : Inv X pins σ' H' { s' with heap := h3 } := J.landed nb fl3.1 (up.trans up3) os ag
    obtain ⟨oe3, vs3, he3, hz3, hd3⟩ := fl3.there
    have nfr : a ∉ frs (X.env :: X.outer) := fun hm => by
      obtain ⟨_, o', e', hnf⟩ := fl3.2.2.1.mem hm
      rw [he3] at e'; cases e'
      exact hnf _ hd3
    have nL : a ≠ X.env.locals := fun z => nfr (List.mem_filterMap.mpr ⟨X.env, List.mem_cons_self, by rw [hf, z]⟩)
    have nF : a ∉ X.fs := fun hm => by
      obtain ⟨e, he, q⟩ := List.mem_filterMap.mp hm
      exact nfr (List.mem_filterMap.mpr ⟨e, List.mem_cons_of_mem _ he, q⟩)
    have nI : sI.heap.get? a = none := by
      cases q : sI.heap.get? a with
      | none => rfl
      | some o =>
        have z := nb a o q (by rw [hs]; exact nfr)
        rw [fl3.2.1] at z; cases z
    have n0 : X.s_0.heap.get? a = none := by
      cases q : X.s_0.heap.get? a with
      | none => rfl
      | some o =>
        obtain ⟨o', z⟩ := J.base.there a o q (by rw [hex]; exact fun z => nomatch z)
        rw [nI] at z; cases z
    have nC : ∀ x c, X.env.cells.lookup x = some c → c ≠ a := fun x c e z => by
      obtain ⟨v, o, ho, _⟩ := J.cell x c e
      rw [z, nI] at ho; cases ho
    have nP : ∀ p ∈ X.pn ++ pins, p.1 ≠ a := fun p hp z => by
      obtain ⟨e, _⟩ := J.pin p hp
      rw [z, nI] at e; cases e
    have S3 := J3.suite he3 hd3 na nL nF
    refine wpAny_handleBy_cons (codeAny_handlers_test ?_) (by intro q; cases q)
    have LT : PySem.W.Looks (model X.prog X.w) h3 (typeOf (.ref a)) cls := fun A Q E s k q => wpAny_typeOf_ref (k _ _ he3) (by rw [hz3.1]; exact q)
    have LM := PySem.W.exm_one (M := model X.prog X.w) (J3.kIn) LT hb1
    have test : ∀ {Q : Value → Shared → Prop} {E : Value → Shared → Prop}, Q c { s' with heap := h3 } → wpAny (model X.prog X.w) (X.A.mark (some (.ref a))) (eval (.Name x np) X.env) Q E { s' with heap := h3 } := fun {Q E} q => by
      obtain ⟨hg, hdbg, hm | ⟨hm, hv, hnn⟩⟩ := hc
      · exact ld_glob (X := X.suite a ((a, oe3) :: (X.pn ++ pins))) S3 hg hm q hdbg
      · exact ld_blt (X := X.suite a ((a, oe3) :: (X.pn ++ pins))) S3 hg hm hv q hnn hdbg
    refine test (LM.here ?_)
    refine codeAny_handlers_suite_as ?_
    refine HandSPX.lands_againZ fl3 fun h4 fl4 up4 => ?_
    have J4 : Inv X pins σ' H' { s' with heap := h4 } := J.landed nb fl4.1 ((up.trans up3).trans up4) os ag
    obtain ⟨oe4, vs4, he4, hz4, hd4⟩ := fl4.there
    have S4 := J4.suite he4 hd4 na nL nF
    refine store_ok (X := X.suite a ((a, oe4) :: (X.pn ++ pins))) (v := .ref a) S4 hN hi hloc rfl (fun s5 S5 => ?_) (.inr hln)
    have hq := hyes a na
    have il : i < σ'.length := by rw [J.len]; exact (List.getElem?_eq_some_iff.mp hi).1
    have run := (hsu a oe4 (X.pn ++ pins)).run [] s5 (σ'.set i (some (.ref a))) H' { nx := fun σ' H1 => H1 = H' ∧ D.nx (σ'.set i none) (upd H' a (ExK cls d a)), rt := fun _ _ => False, bk := fun _ _ => False, ct := fun _ _ => False } S5
      ⟨.ref a, List.getElem?_set_self il, rfl, hq⟩
    refine wpAny_mono run (fun f s6 hsp => ?_) (fun _ _ z => False.elim z)
    cases f with
    | next =>
      obtain ⟨σ6, H6, S6, rfl, q6⟩ := hsp
      refine gone_ok (X := X.suite a ((a, oe4) :: (X.pn ++ pins))) S6 hN hi hln fun s7 S7 => ?_
      obtain ⟨e7, n7, _⟩ := S7.pin (a, oe4) (List.mem_append_left _ List.mem_cons_self)
      have J7 : Inv X pins (σ6.set i none) H6 s7 := S7.unsuite ok
      exact ⟨_, _, inv_track J7 hex n0 n7 e7 hz4 hd4 nL nC nP, q6⟩
    | brk => obtain ⟨_, _, _, z⟩ := hsp; exact z.elim
    | cont => obtain ⟨_, _, _, z⟩ := hsp; exact z.elim
    | ret u => obtain ⟨_, _, _, _, _, z⟩ := hsp; exact z.elim
  · cases f with
    | next =>
      obtain ⟨σ', H', J', q⟩ := hsp
      exact wpAny_execs_nil ⟨σ', H', J'.ofTry ok, q⟩
    | brk =>
      obtain ⟨σ', H', J', q⟩ := hsp
      exact ⟨σ', H', J'.ofTry ok, q⟩
    | cont =>
      obtain ⟨σ', H', J', q⟩ := hsp
      exact ⟨σ', H', J'.ofTry ok, q⟩
    | ret u =>
      obtain ⟨v, σ', H', J', r, q⟩ := hsp
      exact ⟨v, σ', H', J'.ofTry ok, r, q⟩
end
end Far
namespace Far
open PySem L2 PySem.Spec PyProof.Rows
def tMakeS (C : Addr) (sp : Sp) (E : L2.St → XK) (t : TA) : TE := fun σ H Q => t σ H fun vs H1 => ∀ x dx, H1 x = none → H1 dx = none → dx ≠ x →
  sp (.ref x :: vs) (upd (upd H1 dx (.own x)) x (.ins C dx [])) (fun v H2 => v = .non ∧ Q (.ref x) H2) (E σ)
def tMethS (C : Addr) (m : Str) (sp : Sp) (E : L2.St → XK) (ta : TE) (t : TA) : TE := fun σ H Q => ta σ H fun x H1 => ∃ a dx fs, x = .ref a ∧ H1 a = some (.ins C dx fs) ∧ fs.lookup m = none ∧
  t σ H1 fun vs H2 => sp (x :: vs) H2 Q (E σ)
section
variable {X : Cx} {CX : CXT} {k : Nat} {f C : Addr} {fd : FuncData} {ps : List Str} {sp : Sp} {E : L2.St → XK} {x m : Str} {p pos apos : Pos} {e o : Expr} {es : List Expr} {ta : TE} {t : TA}
theorem passC {σ : L2.St} : PassesAt (L2.CX X.prog X.w) X σ E0 := fun pins H s e s' I c => passL pins σ H s e s' I c
theorem run_makeS {σ : L2.St} {pins : List (Addr × Obj)} {H : Hp} {s : Shared} {Q : VK} {us : List Value} {vs : List V} {E1 : XK} (M : Mk X.K C f) (F : FnOk X.prog X.w X.K X.mg X.base CX k f fd ps sp) (hr : Room (k + 1) X.A) (hb : Binds X.K fd ps [])
    (hx : PassesAt CX X σ E1) (I : Inv X pins σ H s) (r : Vals vs us)
    (h : ∀ x dx, H x = none → H dx = none → dx ≠ x → sp (.ref x :: vs) (upd (upd H dx (.own x)) x (.ins C dx [])) (fun v H2 => v = .non ∧ Q (.ref x) H2) E1) :
    wpAny (model X.prog X.w) X.A (call (.ref C) us) (EP X pins σ Q) X.xe s := by
  have hq := h (s.heap.objs.size + 1) s.heap.objs.size (I.hok.fresh (Nat.le_succ _)) (I.hok.fresh (Nat.le_refl _)) (Nat.ne_of_lt (Nat.lt_succ_self _))
  have I2 := Inv.made (C := C) I
  have r2 : Vals (V.ref (s.heap.objs.size + 1) :: vs) (Value.ref (s.heap.objs.size + 1) :: us) := .cons rfl r
  have hl : (Value.ref (s.heap.objs.size + 1) :: us).length = ps.length := by
    rw [← r2.length]; exact F.len _ _ _ _ hq
  have b := hb _ (Value.ref (s.heap.objs.size + 1) :: us) I2.kIn (by rw [List.append_nil]; exact hl)
  rw [List.append_nil] at b
  refine wpAny_call (make_map (f := f) I.kIn M.makes M.init (beq_iff_eq.mp M.fn) (codeAny_mono (F.run _ X.stack _ _ ⟨Value.ref (s.heap.objs.size + 1) :: us, []⟩ (Value.ref (s.heap.objs.size + 1) :: us) _ _ E1 (hr.make C us [])
    (I2.env0.make C us []) b r2 hq) fun r s' hq' => ?_))
  cases r with
  | error e => exact hx pins _ _ e s' I2 hq'
  | ok fl =>
    cases fl with
    | ret u =>
      obtain ⟨v, H', I3, rv, ev, q3⟩ := I2.after hq'
      subst ev
      exact ⟨rv, ⟨V.ref (s.heap.objs.size + 1), H', I3, rfl, q3⟩⟩
    | next => exact False.elim hq'
    | brk => exact False.elim hq'
    | cont => exact False.elim hq'
theorem pe_makeS (M : Mk X.K C f) (F : FnOk X.prog X.w X.K X.mg X.base CX k f fd ps sp) (hr : Room (k + 1) X.A) (hg : Gl X x) (hm : X.mg x = some (.ref C)) (hb : Binds X.K fd ps []) (hx : ∀ σ, PassesAt CX X σ (E σ))
    (ha : PA X (e :: es) t) (hdb : (x == ("__debug__" : Str)) = false := by decide) (he : starEach (e :: es) X.env = (false, eval e X.env) :: starEach es X.env := by rfl) (hpl : (backTo pos (starEach es X.env)).any (·.1) = false := by rfl) :
    PE X (.Call (.Name x p) (e :: es) [] pos) (tMakeS C sp E t) := by
  refine ⟨fun pins s σ H Q I h => ?_⟩
  refine wpAny_Call_Name_kw (ld_glob I hg hm ?_ hdb)
  refine PySem.W.callWith_K (h₀ := X.base) I.ok.mod.kin M.kp (thn (ha.run pos pins s σ H _ I h) fun us s1 ⟨vs, H1, I1, r, q⟩ => ⟨I1.kIn, ?_⟩) he hpl
  exact run_makeS M F hr hb (hx σ) I1 r q
theorem pe_methS0 {pl : Sem Bool} (he : PE X o ta) (c : Cls X.K C) (hm : Meth X.K C m f) (F : FnOk X.prog X.w X.K X.mg X.base CX k f fd ps sp) (hr : Room k X.A) (hb : Binds X.K fd ps []) (hx : ∀ σ, PassesAt CX X σ (E σ))
    (ht : eval (.Call (.Attribute o m apos) [] [] pos) X.env = (do
      let ov ← eval o X.env
      standAt apos.atName
      let (f, first) ← holding [ov] (getMethod ov m pl)
      callWith pos f first (backTo pos (starEach [] X.env)) (backToKw pos (keywordEach [] X.env))) := by rfl) :
    PE X (.Call (.Attribute o m apos) [] [] pos) (tMethS C m sp E ta tNil) := by
  refine ⟨fun pins s σ H Q I h => ?_⟩
  refine PySem.W.methodCall_KW (pl := pl) (thn (he.run pins s σ H _ I h) fun u s1 ⟨x, H1, I1, rx, a, dx, fs, ex, ea, l, q⟩ => ?_) ht
  subst ex
  obtain rfl : u = Value.ref a := rx
  refine getmeth_ok I1 ea c hm l ?_
  exact PySem.W.callWith_K0 (first := [.ref a]) I1.kIn hm.kp (run_fnS (us := [.ref a]) (vs := [.ref a]) F hr hb (hx σ) I1 (.cons rfl .nil) q)
end
/-- the heap without the new instance -/
def hid (H : Hp) (x dx : Addr) : Hp := fun b => if b = x ∨ b = dx then none else H b
theorem hid_ex {H : Hp} {x dx : Addr} : Ex (hid H x dx) H := .of fun a o e => by
  unfold hid at e
  split at e
  · cases e
  · exact e
theorem hid_tab {K : PySem.W.Frag} {H G : Hp} {x dx : Addr} (h : TabOk K (hid H x dx) G) : TabOk K H G := h.mono (fun P ps e => by
  unfold hid at e
  split at e
  · cases e
  · exact e) (.refl G)
theorem hid_new {H : Hp} {x dx : Addr} {o1 o2 : HO} (h1 : H x = none) (h2 : H dx = none) : hid (upd (upd H dx o1) x o2) x dx = H := by
  funext b
  unfold hid
  by_cases e : b = x ∨ b = dx
  · rw [if_pos e]; rcases e with rfl | rfl
    · exact h1.symm
    · exact h2.symm
  · rw [if_neg e]
    have e1 : b ≠ x := fun z => e (.inl z)
    have e2 : b ≠ dx := fun z => e (.inr z)
    rw [upd_ne e1, upd_ne e2]
def spI (K : PySem.W.Frag) (C : Addr) (R : List D → Out → Prop) : Sp := fun vs H Q E => ∃ G x dx us xs out, vs = .ref x :: us ∧ H x = some (.ins C dx []) ∧ H dx = some (.own x) ∧ dx ≠ x ∧ (Ex G (hid H x dx) ∧ TabOk K (hid H x dx) G) ∧ RpL K G xs us ∧ R xs out ∧
  (∀ fs G' H', out = .ret (.d (.ins C fs)) → Ex G G' → Ex G' H' → Ex (hid H x dx) H' → Nc K (hid H x dx) G H' G' → Rp K G' (.ins C fs) (.ref x) → Q .non H') ∧
  (∀ c fs cls d G' H', out = .exc c fs → Ex G G' → Ex G' H' → Ex (hid H x dx) H' → Nc K (hid H x dx) G H' G' → XOk K G' H' c fs cls d → E cls d H')
def SDefI (K : PySem.W.Frag) (E : WX) (x C : Addr) (t : TS) (δ : List S) (out : Out) : Prop := SD K E t δ (fun δ' => ∃ fs, δ'[0]? = some (.ob (some x) C fs) ∧ out = .ret (.d (.ins C fs))) (fun _ _ => False) NoS NoS (fun _ c fs => out = .exc c fs)
def slotsI (n : Nat) (x C : Addr) (xs : List D) : List S := .ob (some x) C [] :: slots (n - 1) xs
theorem ok_startH {K : PySem.W.Frag} {G He H : Hp} {n : Nat} {xs : List D} {vs : List V} (e : Ex G He) (eh : Ex He H) (t0 : TabOk K He G) (t1 : TabOk K H G) (r : RpL K G xs vs) : OKG K He G H G (vs.map some ++ List.replicate (n - vs.length) none) (slots n xs) := by
  refine ⟨.refl G, e.trans eh, eh, ⟨fun _ _ z => z, t0, t1⟩, fun i s h => ?_, fun i j s t p hij hi hj o1 => ?_⟩
  · unfold slots at h
    rcases Nat.lt_or_ge i xs.length with q | q
    · rw [List.getElem?_append_left (by simpa using q), List.getElem?_map] at h
      obtain ⟨x, ex, rfl⟩ := Option.map_eq_some_iff.mp h
      obtain ⟨v, ev, rv⟩ := r.get ex
      refine ⟨some v, ?_, v, rfl, rv⟩
      rw [List.getElem?_append_left (by rw [List.length_map, ← r.length]; exact q), List.getElem?_map, ev]; rfl
    · rw [List.getElem?_append_right (by simpa using q)] at h
      have hs : s = .un := List.eq_of_mem_replicate (List.mem_of_getElem? h)
      have hl := (List.getElem?_eq_some_iff.mp h).1
      rw [List.length_replicate, List.length_map] at hl
      subst hs
      refine ⟨none, ?_, trivial⟩
      rw [List.getElem?_append_right (by rw [List.length_map, ← r.length]; exact q), List.getElem?_replicate, if_pos (by rw [List.length_map, ← r.length]; exact hl)]
  · have : ∀ s ∈ slots n xs, owned s = false := fun s hs => by
      rcases List.mem_append.mp hs with z | z
      · obtain ⟨x, _, rfl⟩ := List.mem_map.mp z; rfl
      · rw [List.eq_of_mem_replicate z]; rfl
    rw [this s (List.mem_of_getElem? hi)] at o1; cases o1
theorem init_run {K : PySem.W.Frag} {C : Addr} {R : List D → Out → Prop} {N : List Str} {vs : List V} {H : Hp} {Q : VK} {E : XK} {t : TS} (hN : 0 < N.length) (h : spI K C R vs H Q E) (k : ∀ x xs out, R xs out → SDefI K (fun cls d _ H => E cls d H) x C t (slotsI N.length x C xs) out) : t { nx := fun _ H' => Q .non H', rt := Q } (L2.start N vs) H := by
  obtain ⟨G, x, dx, us, xs, out, rfl, hx, hdx, ne, ⟨e, t0⟩, r, hr, q1, q2⟩ := h
  have est : L2.start N (.ref x :: us) = some (.ref x) :: (us.map some ++ List.replicate (N.length - 1 - us.length) none) := by
    unfold L2.start
    rw [List.map_cons, List.cons_append, List.length_cons, Nat.sub_add_eq, Nat.sub_right_comm]
  rw [est]
  have h0 := ok_startH (n := N.length - 1) e hid_ex t0 (hid_tab t0) r
  have hx0 : hid H x dx x = none := by unfold hid; simp
  have hd0 : hid H x dx dx = none := by unfold hid; simp
  have ok : OKG K (hid H x dx) G H G (some (.ref x) :: (us.map some ++ List.replicate (N.length - 1 - us.length) none)) (slotsI N.length x C xs) := by
    refine h0.push (s := .ob (some x) C []) ⟨x, dx, [], rfl, (fun _ z => Option.some.inj z), hx0, e.none hx0, hd0, e.none hd0, hx, hdx, .nil⟩ fun _ j s p _ hj ho _ => ?_
    have : ∀ s ∈ slots (N.length - 1) xs, owned s = false := fun s hs => by
      rcases List.mem_append.mp hs with z | z
      · obtain ⟨x, _, rfl⟩ := List.mem_map.mp z; rfl
      · rw [List.eq_of_mem_replicate z]; rfl
    rw [this s (List.mem_of_getElem? hj)] at ho; cases ho
  refine k x xs out hr (hid H x dx) G H _ _ ⟨G, ok⟩ (fun δ' σ' H' ⟨G', ok'⟩ ⟨fs, e0, eo⟩ => ?_) (fun _ _ _ _ _ _ z => z.elim) (fun _ _ _ _ z => z.elim) (fun _ _ _ _ z => z.elim) fun c fs cls d G' σ' δ' H' ok x z => q2 c fs cls d G' H' z ok.ge ok.gh ok.he ok.nc x
  obtain ⟨o, _, x', dx', gs, rfl, hq, h1, h2, h3, h4, h5, h6, rf⟩ := ok'.sl 0 _ e0
  cases hq x rfl
  have ne2 : dx' ≠ x := fun z => by rw [z, h5] at h6; cases h6
  have g1 : Ex G' (upd (upd G' x (.ins C dx' gs)) dx' (.own x)) := (Ex.new h2).trans (.new (by rw [upd_ne ne2]; exact h4))
  refine q1 fs _ H' eo (ok'.ge.trans g1) ⟨fun b u q n => ?_, fun b ps q => ?_⟩ ok'.he ⟨fun b b1 b2 => ?_, ok'.nc.t0, ok'.nc.tb.mono (fun _ _ e => e) g1⟩ (.ins (by rw [upd_ne (Ne.symm ne2), upd_same]) (rf.mono g1))
  · by_cases z : b = dx'
    · subst z; rw [upd_same] at q; cases q; exact h6
    · rw [upd_ne z] at q
      by_cases z2 : b = x
      · subst z2; rw [upd_same] at q; cases q; exact h5
      · rw [upd_ne z2] at q; exact ok'.gh.nt b u q n
  · by_cases z : b = dx'
    · subst z; rw [upd_same] at q; cases q
    · rw [upd_ne z] at q
      by_cases z2 : b = x
      · subst z2; rw [upd_same] at q; cases q
      · rw [upd_ne z2] at q; exact ok'.gh.tb b ps q
  · have z1 : b ≠ dx' := fun z => b1 (by rw [z]; exact h3)
    have z2 : b ≠ x := fun z => b1 (by rw [z]; exact h1)
    rw [upd_ne z1, upd_ne z2]; exact ok'.nc b b1 b2
section
variable {K : PySem.W.Frag} {δ : List S} {te ta tb : TE} {tr : TA} {x y z : D} {s : S} {xs : List D} {fs : List (Str × D)} {C : Addr} {R : List D → Out → Prop} {E : L2.St → XK} {c : Addr} {cf : List (Str × D)}
/-- te lets out an exception of the class at c with the fields cf -/
def EX (K : PySem.W.Frag) (E : L2.St → XK) (te : TE) (δ : List S) (c : Addr) (cf : List (Str × D)) : Prop := ∀ (He Ge H : Hp) (τo : L2.St) (τs : List S) (σ : L2.St), τo.length = τs.length → OK K He Ge H (τo ++ σ) (τs ++ δ) →
  (∀ cls d G' H', OKG K He Ge H' G' (τo ++ σ) (τs ++ δ) → XOk K G' H' c cf cls d → E σ cls d H') → ∀ Q : VK, te σ H Q
def EXA (K : PySem.W.Frag) (E : L2.St → XK) (ta : TA) (δ : List S) (c : Addr) (cf : List (Str × D)) : Prop := ∀ (He Ge H : Hp) (τo : L2.St) (τs : List S) (σ : L2.St), τo.length = τs.length → OK K He Ge H (τo ++ σ) (τs ++ δ) →
  (∀ cls d G' H', OKG K He Ge H' G' (τo ++ σ) (τs ++ δ) → XOk K G' H' c cf cls d → E σ cls d H') → ∀ Q : List V → Hp → Prop, ta σ H Q
theorem sp_ret {He Ge H G : Hp} {σ : L2.St} {δ : List S} {vs : List V} {E : XK} (ok1 : OKG K He Ge H G σ δ) (r1 : RpL K G xs vs) (hr : R xs (.ret s)) {Q : VK} (q : ∀ v H', OK K He Ge H' (some v :: σ) (s :: δ) → Q v H') : spD K R vs H Q E := by
  refine ⟨G, xs, .ret s, ⟨ok1.gh, ok1.nc.tb⟩, r1, hr, fun v s' G' H' e g1 g2 g3 nc k _ => ?_, fun c fs cls d G' H' e => (nomatch e)⟩
  cases e
  refine q v H' ⟨G', (ok1.grow g3 g1 g2 nc).push ?_ fun ho j t p e hj hoj eσ => ?_⟩
  · cases s with
    | un => trivial
    | ot _ _ _ => trivial
    | d x => exact k
    | own ys => obtain ⟨p, us, e, h1, h2, h3, r⟩ := k; exact ⟨p, us, e, ok1.he.none h1, h2, h3, r⟩
    | okd ys => obtain ⟨p, us, e, h1, h2, h3, r⟩ := k; exact ⟨p, us, e, ok1.he.none h1, h2, h3, r⟩
    | oko ys => obtain ⟨p, us, e, h1, h2, h3⟩ := k; exact ⟨p, us, e, ok1.he.none h1, h2, h3⟩
    | ob q C fs => obtain ⟨a, dx, gs, e, hq, h1, h2, h3, h4, h5, h6, r⟩ := k; exact ⟨a, dx, gs, e, hq, ok1.he.none h1, h2, ok1.he.none h3, h4, h5, h6, r⟩
  · cases e
    have hn : H p = none := by
      cases s with
      | un => cases ho
      | ot _ _ _ => cases ho
      | d x => cases ho
      | own ys => obtain ⟨p', us, e, h1, _⟩ := k; cases e; exact h1
      | okd ys => obtain ⟨p', us, e, h1, _⟩ := k; cases e; exact h1
      | oko ys => obtain ⟨p', us, e, h1, _⟩ := k; cases e; exact h1
      | ob q C fs => obtain ⟨a, dx, gs, e, _, h1, _⟩ := k; cases e; exact h1
    obtain ⟨o, eo, k2⟩ := ok1.sl j t hj
    rw [eo] at eσ
    cases eσ
    cases t with
    | un => cases hoj
    | ot _ _ _ => cases hoj
    | d x => cases hoj
    | own ys => obtain ⟨p', vs', e, _, _, h3, _⟩ := k2; cases e; rw [hn] at h3; cases h3
    | okd ys => obtain ⟨p', vs', e, _, _, h3, _⟩ := k2; cases e; rw [hn] at h3; cases h3
    | oko ys => obtain ⟨p', vs', e, _, _, h3⟩ := k2; cases e; rw [hn] at h3; cases h3
    | ob q C fs => obtain ⟨a, dx, gs, e, _, _, _, _, _, h5, _⟩ := k2; cases e; rw [hn] at h5; cases h5
theorem ev_callS (h : EA K tr δ xs) (hr : R xs (.ret s)) : EV K (tCallS (spD K R) E tr) δ s := by
  intro He Ge H τo τs σ hl ok Q q
  have z := ev_call (E := E σ) h hr He Ge H τo τs σ hl ok Q q
  unfold tCall at z
  simp only [List.append_nil] at z
  exact z
theorem ex_callS (h : EA K tr δ xs) (hr : R xs (.exc c cf)) : EX K E (tCallS (spD K R) E tr) δ c cf := by
  intro He Ge H τo τs σ hl ok k Q
  refine h He Ge H τo τs σ hl ok _ fun vs H1 G ok1 r1 => ?_
  exact ⟨G, xs, .exc c cf, ⟨ok1.gh, ok1.nc.tb⟩, r1, hr, fun v s' G' H' e => (nomatch e), fun c' fs cls d G' H' e g1 g2 g3 nc k2 => by
    cases e
    exact k cls d G' H' (ok1.grow g3 g1 g2 nc) k2⟩
theorem exa_head (h : EX K E te δ c cf) : EXA K E (tCons te tr) δ c cf := fun He Ge H τo τs σ hl ok k Q => h He Ge H τo τs σ hl ok k _
theorem exa_tail (h1 : EV K te δ (.d x)) (h : EXA K E tr δ c cf) : EXA K E (tCons te tr) δ c cf := fun He Ge H τo τs σ hl ok k Q =>
  h1 He Ge H τo τs σ hl ok _ fun v H1 ok1 => h He Ge H1 (some v :: τo) (.d x :: τs) σ (by simp [hl]) ok1 (fun cls d G' H' ok' x => k cls d G' H' ok'.pop x) _
theorem ex_op1 {r : R2} (h : EX K E ta δ c cf) : EX K E (tOp r ta tb) δ c cf := fun He Ge H τo τs σ hl ok k Q => h He Ge H τo τs σ hl ok k _
theorem ex_op2 {r : R2} (h1 : EV K ta δ (.d x)) (h : EX K E tb δ c cf) : EX K E (tOp r ta tb) δ c cf := fun He Ge H τo τs σ hl ok k Q =>
  h1 He Ge H τo τs σ hl ok _ fun v H1 ok1 => h He Ge H1 (some v :: τo) (.d x :: τs) σ (by simp [hl]) ok1 (fun cls d G' H' ok' x => k cls d G' H' ok'.pop x) _
theorem ev_makeS (h : EA K tr δ xs) (hr : R xs (.ret (.d (.ins C fs)))) : EV K (tMakeS C (spI K C R) E tr) δ (.d (.ins C fs)) := by
  intro He Ge H τo τs σ hl ok Q q
  refine h He Ge H τo τs σ hl ok _ fun vs H1 G ok1 r1 => ?_
  intro x dx hx hdx ne
  have hh := hid_new (o1 := .own x) (o2 := .ins C dx []) hx hdx
  refine ⟨G, x, dx, vs, xs, _, rfl, upd_same, by rw [upd_ne ne, upd_same], ne, by rw [hh]; exact ⟨ok1.gh, ok1.nc.tb⟩, r1, hr, fun fs' G' H' e g1 g2 g3 nc k => ?_, fun c fs cls d G' H' e => (nomatch e)⟩
  cases e
  rw [hh] at g3 nc
  exact ⟨rfl, q _ H' ⟨G', (ok1.grow g3 g1 g2 nc).pushD k⟩⟩
theorem ex_makeS (h : EA K tr δ xs) (hr : R xs (.exc c cf)) : EX K E (tMakeS C (spI K C R) E tr) δ c cf := by
  intro He Ge H τo τs σ hl ok k Q
  refine h He Ge H τo τs σ hl ok _ fun vs H1 G ok1 r1 => ?_
  intro x dx hx hdx ne
  have hh := hid_new (o1 := .own x) (o2 := .ins C dx []) hx hdx
  refine ⟨G, x, dx, vs, xs, _, rfl, upd_same, by rw [upd_ne ne, upd_same], ne, by rw [hh]; exact ⟨ok1.gh, ok1.nc.tb⟩, r1, hr, fun fs' G' H' e => (nomatch e), fun c' fs cls d G' H' e g1 g2 g3 nc k2 => ?_⟩
  cases e
  rw [hh] at g3 nc
  exact k cls d G' H' (ok1.grow g3 g1 g2 nc) k2
theorem ev_methS {m : Str} (h0 : EV K ta δ (.d (.ins C fs))) (hm : fs.lookup m = none) (h : EA K tr δ xs) (hr : R (.ins C fs :: xs) (.ret s)) : EV K (tMethS C m (spD K R) E ta tr) δ s := by
  intro He Ge H τo τs σ hl ok Q q
  refine h0 He Ge H τo τs σ hl ok _ fun v H1 ok1 => ?_
  obtain ⟨G1, ok1⟩ := ok1
  obtain ⟨_, e1, r1⟩ := ok1.top
  cases e1
  cases r1 with
  | ins hp rf =>
    refine ⟨_, _, _, rfl, ok1.gh _ _ hp, rf.nolook hm, ?_⟩
    refine h He Ge H1 (some _ :: τo) (.d (.ins C fs) :: τs) σ (by simp [hl]) ⟨G1, ok1⟩ _ fun vs H2 G2 ok2 r2 => ?_
    obtain ⟨_, e2, r3⟩ := ok2.top
    cases e2
    exact sp_ret ok2.pop (.cons r3 r2) hr q
theorem ev_fld {f : Str} (h : EV K ta δ (.d (.ins C fs))) (c : Cls K C) (n : NoAttr K C f) (l : fs.lookup f = some x) : EV K (tFld K ta f) δ (.d x) := by
  intro He Ge H τo τs σ hl ok Q q
  refine h He Ge H τo τs σ hl ok _ fun v H1 ⟨G1, ok1⟩ => ?_
  obtain ⟨_, e1, r1⟩ := ok1.top
  cases e1
  cases r1 with
  | ins hp rf =>
    obtain ⟨u, l2, r2⟩ := rf.lookup l
    exact ⟨_, _, _, _, _, rfl, ok1.gh _ _ hp, c, n, l2, q _ _ ⟨G1, ok1.pop.pushD r2⟩⟩
variable {W : WX} {N B Ct : List S → Prop} {Rt : S → List S → Prop} {Xc : List S → Addr → List (Str × D) → Prop} {t u : TS}
def tRaise (C : Addr) (W : WX) : TS := fun _ σ H => W (.ref C) none σ H
theorem sd_raise (h : Xc δ C []) : SD K W (tRaise C W) δ N Rt B Ct Xc := fun He Ge H σ Dn ⟨G, ok⟩ nx rt bk ct xx => xx C [] (.ref C) none G σ δ H ok ⟨rfl, .inl ⟨rfl, rfl⟩⟩ h
theorem ex0 (h : EX K (WE W) te δ c cf) {He Ge H : Hp} {σ : L2.St} (ok : OK K He Ge H σ δ) (k : ∀ cls d G' H', OKG K He Ge H' G' σ δ → XOk K G' H' c cf cls d → W cls d σ H') (Q : VK) : te σ H Q := h He Ge H [] [] σ rfl ok k Q
theorem sd_asgX {g : TG} (h : EX K (WE W) te δ c cf) (hx : Xc δ c cf) : SD K W (tAsg te g) δ N Rt B Ct Xc := fun He Ge H σ Dn ok nx rt bk ct xx => ex0 h ok (fun cls d G' H' ok' x => xx c cf cls d G' σ δ H' ok' x hx) _
theorem sd_dropX (h : EX K (WE W) te δ c cf) (hx : Xc δ c cf) : SD K W (tDrop te) δ N Rt B Ct Xc := fun He Ge H σ Dn ok nx rt bk ct xx => ex0 h ok (fun cls d G' H' ok' x => xx c cf cls d G' σ δ H' ok' x hx) _
theorem sd_retX (h : EX K (WE W) te δ c cf) (hx : Xc δ c cf) : SD K W (tRet te) δ N Rt B Ct Xc := fun He Ge H σ Dn ok nx rt bk ct xx => ex0 h ok (fun cls d G' H' ok' x => xx c cf cls d G' σ δ H' ok' x hx) _
theorem sd_try {cv : Value} {i j : Nat} {tb : WX → TS} {X1 : List S → Addr → List (Str × D) → Prop} (hb : ∀ W, SD K W (tb W) δ N Rt B Ct X1)
    (hx : ∀ δ' c fs, X1 δ' c fs → i < δ'.length ∧ j < δ'.length ∧ PySem.W.exmOne K (.ref c) cv = some true ∧ N (((δ'.set i .un).set j (.d (.exc c fs))).set i .un)) : SD K W (tTryK K cv i j tb) δ N Rt B Ct Xc := by
  intro He Ge H σ Dn ok nx rt bk ct xx
  refine hb (wKeep K cv i j Dn) He Ge H σ Dn ok nx rt bk ct fun c fs cls d G' σ' δ' H' ok' xo h1 => ?_
  obtain ⟨k1, k2, k3, k4⟩ := hx δ' c fs h1
  obtain ⟨rfl, hd⟩ := xo
  refine ⟨k3, fun a na => ?_⟩
  have ok2 := ok'.newG (u := ExK (.ref c) d a) na
  have ga : G' a = none := ok'.gh.none na
  have r : Rp K (upd G' a (ExK (.ref c) d a)) (.exc c fs) (.ref a) := by
    rcases hd with ⟨rfl, rfl⟩ | ⟨dd, gs, rfl, e, r, nn⟩
    · exact .exc0 upd_same
    · exact .exc1 upd_same (by rw [upd_ne (ne_of_none e ga)]; exact e) (r.mono (.new ga)) nn
  have ok3 := (ok2.push (s := .un) (o := some (.ref a)) trivial fun z => nomatch z).store k1
  have ok4 := (ok3.pushD r).store (i := j) (by rw [List.length_set]; exact k2)
  have ok5 := (ok4.push (s := .un) (o := none) trivial fun z => nomatch z).store (i := i) (by simp only [List.length_set]; exact k1)
  exact nx _ _ _ ⟨_, ok5⟩ k4
theorem OKG.changeOb {He Ge H G : Hp} {σ : L2.St} {i : Nat} {q : Option Addr} {a dx : Addr} {gs gs2 : List (Str × V)} {fs2 : List (Str × D)} (h : OKG K He Ge H G σ δ) (hi : δ[i]? = some (.ob q C fs)) (hs : σ[i]? = some (some (.ref a))) (hl : H a = some (.ins C dx gs)) (r : RpF K G fs2 gs2) : OKG K He Ge (upd H a (.ins C dx gs2)) G σ (δ.set i (.ob q C fs2)) := by
  obtain ⟨o, e, a1, dx1, gs', rfl, hq, h1, h2, h3, h4, h5, h6, r'⟩ := h.sl i _ hi
  have hs' := hs
  rw [e] at hs'
  cases hs'
  rw [h5] at hl
  cases hl
  have hlt : i < δ.length := (List.getElem?_eq_some_iff.mp hi).1
  have nd : dx ≠ a := fun z => by rw [z, h5] at h6; cases h6
  refine ⟨h.ge, h.gh.put h2, h.he.put h1, ⟨h.nc, h.nc.t0, h.nc.tb.put (fun ps z => by rw [h5] at z; cases z) (.refl G)⟩, fun j t q => ?_, fun j k s' t p' hjk hj hk o1 o2 e1 e2 => ?_⟩
  · by_cases z : i = j
    · subst z
      rw [List.getElem?_set_self hlt] at q; cases q
      exact ⟨_, e, a, dx, gs2, rfl, hq, h1, h2, h3, h4, upd_same, by rw [upd_ne nd]; exact h6, r⟩
    · rw [List.getElem?_set_ne z] at q
      obtain ⟨o, eo, k⟩ := h.sl j t q
      refine ⟨o, eo, ?_⟩
      cases t with
      | un => trivial
      | ot _ _ _ => trivial
      | d x => exact k
      | own zs =>
        obtain ⟨p2, vs2, rfl, k1, k2, k3, r2⟩ := k
        have ne : p2 ≠ a := fun y => by rw [y, h5] at k3; cases k3
        exact ⟨p2, vs2, rfl, k1, k2, by rw [upd_ne ne]; exact k3, r2⟩
      | okd zs =>
        obtain ⟨p2, vs2, rfl, k1, k2, k3, r2⟩ := k
        have ne : p2 ≠ a := fun y => by rw [y, h5] at k3; cases k3
        exact ⟨p2, vs2, rfl, k1, k2, by rw [upd_ne ne]; exact k3, r2⟩
      | oko zs =>
        obtain ⟨p2, vs2, rfl, k1, k2, k3⟩ := k
        have ne : p2 ≠ a := fun y => by rw [y, h5] at k3; cases k3
        exact ⟨p2, vs2, rfl, k1, k2, by rw [upd_ne ne]; exact k3⟩
      | ob q2 C2 fs3 =>
        obtain ⟨a2, dx2, gs3, rfl, kq, k1, k2, k3, k4, k5, k6, r2⟩ := k
        have n1 : a2 ≠ a := fun y => h.ne i j _ _ a z hi q rfl rfl e (by rw [← y]; exact eo)
        have n2 : dx2 ≠ a := fun y => by rw [y, h5] at k6; cases k6
        exact ⟨a2, dx2, gs3, rfl, kq, k1, k2, k3, k4, by rw [upd_ne n1]; exact k5, by rw [upd_ne n2]; exact k6, r2⟩
  · have un : ∀ (m : Nat) (s : S), (δ.set i (.ob q C fs2))[m]? = some s → owned s = true → ∃ s2, δ[m]? = some s2 ∧ owned s2 = true := fun m s q q2 => by
      by_cases z : i = m
      · subst z; exact ⟨_, hi, rfl⟩
      · rw [List.getElem?_set_ne z] at q; exact ⟨s, q, q2⟩
    obtain ⟨s2, q1, q2⟩ := un j _ hj o1
    obtain ⟨t2, q3, q4⟩ := un k _ hk o2
    exact h.ne j k s2 t2 p' hjk q1 q3 q2 q4 e1 e2
theorem sd_fld {i : Nat} {a : Option Addr} {f : Str} (hi : δ[i]? = some (.ob a C fs)) (h : EV K te δ (.d x)) (c : Cls K C) (n : NoAttr K C f) (hl : fs.length < 1000) (nx : N (δ.set i (.ob a C (putD f x fs)))) : SD K W (sFld K (tVar i) te f) δ N Rt B Ct Xc := by
  intro He Ge H σ Dn ok n1 rt bk ct xx
  refine ev0 h ok fun v H' ⟨G', ok'⟩ => ?_
  obtain ⟨o, eo, a0, dx, gs, rfl, kq, k1, k2, k3, k4, k5, k6, rf⟩ := ok'.pop.sl i _ hi
  obtain ⟨w, e4, rw_⟩ := ok'.top
  cases e4
  exact ⟨_, eo, a0, C, dx, gs, rfl, k5, c, n, by rw [← rf.length]; exact hl, n1 _ _ _ ⟨G', ok'.pop.changeOb hi eo k5 (rf.put rw_)⟩ nx⟩
end
def rIsX (K : PySem.W.Frag) : List V → Hp → VK → Prop := fun xs H Q => ∃ (a D : Addr) (c : V) (cv : Value) (b : Bool), xs = [.ref a, c] ∧ (H a = some (ExK (.ref D) none a) ∨ H a = some (ExO (.ref D) a)) ∧ ExcC K D ∧ ClsV c cv ∧ PySem.W.kitOne K (.ref D) cv = some b ∧ Q (.bl b) H
def rIsXT (K : PySem.W.Frag) : List V → Hp → VK → Prop := fun xs H Q => ∃ (a D tp : Addr) (cs : List V) (us : List Value) (b : Bool), xs = [.ref a, .ref tp] ∧ (H a = some (ExK (.ref D) none a) ∨ H a = some (ExO (.ref D) a)) ∧ ExcC K D ∧ SqT K H tp cs ∧ Paired ClsV cs us ∧ PySem.W.kitAny K (.ref D) us = some b ∧ Q (.bl b) H
def rIsTS (K : PySem.W.Frag) : List V → Hp → VK → Prop := fun xs H Q => ∃ (x : V) (tp : Addr) (cs : List V) (t : Value) (us : List Value) (b : Bool), xs = [x, .ref tp] ∧ SqT K H tp cs ∧ Paired ClsV cs us ∧ TyX K H x t ∧ PySem.W.kitAny K t us = some b ∧ Q (.bl b) H
def rIsU (K : PySem.W.Frag) : List V → Hp → VK → Prop := fun xs H Q => rIsi K xs H Q ∨ rIsX K xs H Q ∨ rIsTS K xs H Q ∨ rIsXT K xs H Q
section
variable {X : Cx}
theorem exc_at {pins : List (Addr × Obj)} {σ : L2.St} {H : Hp} {s : Shared} {a D : Addr} (I : Inv X pins σ H s) (h : H a = some (ExK (.ref D) none a) ∨ H a = some (ExO (.ref D) a)) : ∃ oe, PySem.W.InstAt s.heap a oe D none := by
  have z : ∃ (oe : Obj) (vs : Array Value), s.heap.get? a = some oe ∧ Zc (.ref D) none oe ∧ oe.data = .fields vs := by
    rcases h with h | h
    · obtain ⟨z, _⟩ := I.hok a _ h; exact z
    · obtain ⟨⟨oe, vs, e, z, d, _⟩, _⟩ := I.hok a _ h; exact ⟨oe, vs, e, z, d⟩
  obtain ⟨oe, vs, e, z, d⟩ := z
  refine ⟨oe, ?_⟩
  obtain ⟨oc, od, oda, osl⟩ := oe
  obtain ⟨h1, h2⟩ := z
  dsimp only at h1 h2 d
  subst h1 h2 d
  exact ⟨e, rfl, rfl, trivial⟩
theorem call_isU : CallR X (.builtin "isinstance") (rIsU X.K) := by
  intro pins s σ H xs us Q I r h
  rcases h with h | h | h | h
  · exact call_isi pins s σ H xs us Q I r h
  · obtain ⟨a, D, c, cv, b, rfl, ha, C, k, e, q⟩ := h
    obtain ⟨u1, u2, rfl, r1, r2⟩ := vals2 r
    have e2 := k.eq r2
    subst e2
    cases (show u1 = Value.ref a from r1)
    obtain ⟨oe, J⟩ := exc_at I ha
    exact PySem.W.kia_one (PySem.W.handS_kitx_exc C.hg C.hk C.hs C.hd C.ha C.hn C.ht C.hm) I.kIn J e (fun z => nomatch z) fun tk => ⟨.bl b, H, I.tok tk, rfl, q⟩
  · obtain ⟨x, tp, cs, t, ws, b, rfl, hT, k, ty, e, q⟩ := h
    obtain ⟨u1, u2, rfl, r1, r2⟩ := vals2 r
    cases (show u2 = Value.ref tp from r2)
    obtain ⟨P, Z, p, hx⟩ := kit_of I r1 ty
    obtain ⟨its, rv, ⟨o, h1, h2, n, h3⟩, _⟩ := I.tuple hT
    have e3 := ClsV.all k rv
    subst e3
    obtain ⟨oc, od, dt, sl⟩ := o
    simp only at h2 h3
    subst h2 h3
    exact PySem.W.kia_tup Z I.kIn p h1 e hx fun tk => ⟨.bl b, H, I.tok tk, rfl, q⟩
  · obtain ⟨a, D, tp, cs, ws, b, rfl, ha, C, hT, k, e, q⟩ := h
    obtain ⟨u1, u2, rfl, r1, r2⟩ := vals2 r
    cases (show u2 = Value.ref tp from r2)
    cases (show u1 = Value.ref a from r1)
    obtain ⟨oe, J⟩ := exc_at I ha
    obtain ⟨its, rv, ⟨o, h1, h2, n, h3⟩, _⟩ := I.tuple hT
    have e3 := ClsV.all k rv
    subst e3
    obtain ⟨oc, od, dt, sl⟩ := o
    simp only at h2 h3
    subst h2 h3
    exact PySem.W.kia_tup (PySem.W.handS_kitx_exc C.hg C.hk C.hs C.hd C.ha C.hn C.ht C.hm) I.kIn J h1 e (fun z => nomatch z) fun tk => ⟨.bl b, H, I.tok tk, rfl, q⟩
end
/-- a class of the text, as isinstance asks its instances -/
structure InsC (K : PySem.W.Frag) (C : Addr) : Prop where
  cl : Cls K C
  ha : PySem.W.findIn K (.ref C) "__class__" = some (some (.builtin "object.__class__"))
  hn : PySem.W.specialIn K (.builtin "object.__class__") "__get__" = some (some (.builtin "getset_descriptor.__get__"))
  ht : PySem.W.takesIn K (.builtin "object.__class__") = some true
  hm : PySem.W.mroIn K C (.type "object") = some true
/-- the class that a datum is -/
def clsD : D → Option Value
  | .ty n => some (.type n) | .cls a => some (.ref a) | _ => none
section
variable {K : PySem.W.Frag} {x c : D} {b : Bool} {cv : Value}
theorem clsV_of {G : Hp} {v : V} (h : clsD c = some cv) (r : Rp K G c v) : ClsV v cv := by
  cases r <;> simp [clsD] at h
  · subst h; exact .ty _
  · subst h; exact .own _
theorem clsV_all {G : Hp} : ∀ {cs : List D} {us : List Value} {vs : List V}, cs.mapM clsD = some us → RpL K G cs vs → Paired ClsV vs us
  | [], us, vs, h, r => by
    cases r
    simp at h
    subst h; exact .nil
  | c :: cs, us, vs, h, r => by
    cases r with
    | cons r0 r =>
      rw [List.mapM_cons] at h
      cases e : clsD c with
      | none => rw [e] at h; simp at h
      | some w =>
        rw [e] at h
        cases e2 : cs.mapM clsD with
        | none => rw [e2] at h; simp at h
        | some ws =>
          rw [e2] at h
          simp at h
          subst h
          exact .cons (clsV_of e r0) (clsV_all e2 r)
/-- what isinstance asks of a datum: its class -/
inductive Kin (K : PySem.W.Frag) : D → Value → Prop
  | ty {x : D} (h : known x = true) : Kin K x (.type (tyN x))
  | ins {C : Addr} {fs : List (Str × D)} (h : InsC K C) : Kin K (.ins C fs) (.ref C)
  | exc {C : Addr} (h : ExcC K C) : Kin K (.exc C []) (.ref C)
theorem is_any {t : Value} (hk : Kin K x t) (hc : clsD c = some cv) (h : PySem.W.kitOne K t cv = some b) : RVN K (rIsU K) [x, c] (.d (.bl b)) := by
  intro He Ge H G σ δ vs ok r Q q
  cases r with
  | cons r0 r2 =>
    cases r2 with
    | cons r1 r2 =>
      cases r2
      cases hk with
      | ty hk => exact .inl ⟨_, _, _, _, b, rfl, clsV_of hc r1, known_ty hk ok.gh r0, h, q _ _ (done ok .bl)⟩
      | ins hi =>
        cases r0 with
        | ins hp rf => exact .inl ⟨_, _, _, _, b, rfl, clsV_of hc r1, .base (.ins (ok.gh _ _ hp) hi.cl hi.ha hi.hn hi.ht hi.hm), h, q _ _ (done ok .bl)⟩
      | exc he =>
        cases r0 with
        | exc0 hp => exact .inr (.inl ⟨_, _, _, _, b, rfl, .inl (ok.gh _ _ hp), he, clsV_of hc r1, h, q _ _ (done ok .bl)⟩)
        | exo hp => exact .inr (.inl ⟨_, _, _, _, b, rfl, .inr (ok.gh _ _ hp), he, clsV_of hc r1, h, q _ _ (done ok .bl)⟩)
        | exc1 _ _ _ n => exact absurd rfl n
theorem is_anyT {t : Value} {cs : List D} {us : List Value} (hk : Kin K x t) (hc : cs.mapM clsD = some us) (h : PySem.W.kitAny K t us = some b) : RVN K (rIsU K) [x, .tup cs] (.d (.bl b)) := by
  intro He Ge H G σ δ vs ok r Q q
  cases r with
  | cons r0 r2 =>
    cases r2 with
    | cons r1 r2 =>
      cases r2
      cases r1 with
      | tup hT rT =>
        have hP := clsV_all hc rT
        have hT' := ok.gh.t hT.t
        cases hk with
        | ty hk => exact .inr (.inr (.inl ⟨_, _, _, _, _, b, rfl, hT', hP, known_ty hk ok.gh r0, h, q _ _ (done ok .bl)⟩))
        | ins hi =>
          cases r0 with
          | ins hp rf => exact .inr (.inr (.inl ⟨_, _, _, _, _, b, rfl, hT', hP, .base (.ins (ok.gh _ _ hp) hi.cl hi.ha hi.hn hi.ht hi.hm), h, q _ _ (done ok .bl)⟩))
        | exc he =>
          cases r0 with
          | exc0 hp => exact .inr (.inr (.inr ⟨_, _, _, _, _, b, rfl, .inl (ok.gh _ _ hp), he, hT', hP, h, q _ _ (done ok .bl)⟩))
          | exo hp => exact .inr (.inr (.inr ⟨_, _, _, _, _, b, rfl, .inr (ok.gh _ _ hp), he, hT', hP, h, q _ _ (done ok .bl)⟩))
          | exc1 _ _ _ n => exact absurd rfl n
/-- an own class against an own class -/
theorem kit_own {C D : Addr} {b : Bool} (h1 : PySem.W.isClsIn K C = true) (h2 : PySem.W.typeIn K (.ref C) = some (.type "type")) (h3 : PySem.W.subIn K (.ref C) (.ref C) = some true) (h4 : PySem.W.subIn K (.ref D) (.ref C) = some b) : PySem.W.kitOne K (.ref D) (.ref C) = some b := by
  unfold PySem.W.kitOne
  by_cases e : D = C
  · subst e
    rw [h3] at h4
    rw [if_pos (by simp)]; exact h4
  · rw [if_neg (by simp [e])]
    have h1' : (PySem.W.clsIn K C).isSome = true := h1
    show (if ((PySem.W.clsIn K C).isSome && PySem.W.typeIn K (.ref C) == some (.type "type")) = true then PySem.W.subIn K (.ref D) (.ref C) else none) = some b
    rw [if_pos (by rw [h1', h2] <;> rfl)]
    exact h4
theorem kit_ownT {T : String} {t : Value} {b : Bool} (h1 : PySem.W.kitMeta T = true) (ht : (t == .type T) = false) (h4 : PySem.W.subIn K t (.type T) = some b) : PySem.W.kitOne K t (.type T) = some b := by
  unfold PySem.W.kitOne
  rw [if_neg (by rw [ht]; exact Bool.false_ne_true)]
  show (if PySem.W.kitMeta T = true then PySem.W.subIn K t (.type T) else none) = some b
  rw [if_pos h1]; exact h4
/-- a built-in kind against an own class -/
theorem kit_tyOwn {C : Addr} {n : String} {b : Bool} (h1 : PySem.W.isClsIn K C = true) (h2 : PySem.W.typeIn K (.ref C) = some (.type "type")) (h4 : PySem.W.subIn K (.type n) (.ref C) = some b) : PySem.W.kitOne K (.type n) (.ref C) = some b := by
  unfold PySem.W.kitOne
  rw [if_neg (by simp)]
  have h1' : (PySem.W.clsIn K C).isSome = true := h1
  show (if ((PySem.W.clsIn K C).isSome && PySem.W.typeIn K (.ref C) == some (.type "type")) = true then PySem.W.subIn K (.type n) (.ref C) else none) = some b
  rw [if_pos (by rw [h1', h2] <;> rfl)]
  exact h4
end
section
variable {P : Program} {w : World} {K : PySem.W.Frag} {mg : Str → Option Value} {base : Heap}
theorem ok_defX {x qual : Str} {st : Stmt} {f : Addr} {fd : FuncData} {N ps : List Str} {k : Nat} {R : List D → Out → Prop} {t : WX → TS} (F : Fun K x qual st f fd) (S : FnScope N ps (defScope st)) (hl : ∀ xs out, R xs out → xs.length = ps.length)
    (hd : ∀ (cdv : Value) (A : Around) (outer : List Env) (s : Shared) (H : Hp) (E : XK), Room k (A.deeper (envOfC qual (defScope st) s.heap.objs.size f cdv)) → PSs (cxOf (L2.CX P w) P w K mg base N qual (defScope st) f cdv A outer s H E) (defBody st) (t fun cls d _ H => E cls d H))
    (hs : ∀ (E : WX) xs out, R xs out → SDef K E (t E) (slots N.length xs) out) : FnOk P w K mg base (L2.CX P w) (k + 1) f fd ps (spD K R) :=
  F.okX S (spD_len hl) fun cdv A outer s H vs Q E hr h => ⟨t _, hd cdv A outer s H E hr, body_run h (hs _)⟩
theorem spI_len {C : Addr} {R : List D → Out → Prop} {n : Nat} (h : ∀ xs out, R xs out → xs.length + 1 = n) : ∀ vs H Q E, spI K C R vs H Q E → vs.length = n := fun vs H Q E ⟨G, x, dx, us, xs, out, e0, _, _, _, _, r, hr, _⟩ => by
  rw [e0, List.length_cons, ← r.length]; exact h xs out hr
theorem ok_initX {C : Addr} {x qual : Str} {st : Stmt} {f : Addr} {fd : FuncData} {N ps : List Str} {k : Nat} {R : List D → Out → Prop} {t : WX → TS} (F : Fun K x qual st f fd) (S : FnScope N ps (defScope st)) (hl : ∀ xs out, R xs out → xs.length + 1 = ps.length) (hN : 0 < N.length)
    (hd : ∀ (cdv : Value) (A : Around) (outer : List Env) (s : Shared) (H : Hp) (E : XK), Room k (A.deeper (envOfC qual (defScope st) s.heap.objs.size f cdv)) → PSs (cxOf (L2.CX P w) P w K mg base N qual (defScope st) f cdv A outer s H E) (defBody st) (t fun cls d _ H => E cls d H))
    (hs : ∀ (E : WX) x xs out, R xs out → SDefI K E x C (t E) (slotsI N.length x C xs) out) : FnOk P w K mg base (L2.CX P w) (k + 1) f fd ps (spI K C R) :=
  F.okX S (spI_len hl) fun cdv A outer s H vs Q E hr h => ⟨t _, hd cdv A outer s H E hr, init_run hN h (hs _)⟩
end
end Far
namespace Far
open PySem L2 PySem.Spec PyProof.Rows
def cntV (y : V) (ys : List V) : Nat := ys.countP fun z => eqV z y
def rCnt (K : PySem.W.Frag) : V → List V → Hp → VK → Prop := fun x xs H Q => ∃ (a : Addr) (ys : List V) (y : V), x = V.ref a ∧ xs = [y] ∧ SqL K H a ys ∧ flatV y = true ∧ ys.all flatV = true ∧ Q (.int (cntV y ys : Nat)) H
def rCntT (K : PySem.W.Frag) : V → List V → Hp → VK → Prop := fun x xs H Q => ∃ (a : Addr) (ys : List V) (y : V), x = V.ref a ∧ xs = [y] ∧ SqT K H a ys ∧ flatV y = true ∧ ys.all flatV = true ∧ Q (.int (cntV y ys : Nat)) H
section
variable {X : Cx}
theorem cnt_rel {y : V} : ∀ {ys : List V} {us : List Value}, Vals ys us → ys.all flatV = true → us.countP (eqU y) = cntV y ys
  | _, _, .nil, _ => rfl
  | z :: ys, u :: us, .cons r t, f => by
    rw [List.all_cons, Bool.and_eq_true] at f
    unfold cntV
    rw [List.countP_cons, List.countP_cons, eqU_of r f.1]
    have ih := cnt_rel (y := y) t f.2
    unfold cntV at ih
    rw [ih]
theorem mt_count : MtR X "list.count" (rCnt X.K) := by
  intro pins s σ H x xs v us Q I rx rxs h
  obtain ⟨a, ys, y, rfl, rfl, hs, fy, fys, q⟩ := h
  cases rx
  cases rxs with
  | cons ry rt =>
    rename_i uy ut
    cases rt
    obtain ⟨its, rv, ⟨⟨cls, dd, data, sl⟩, n, ho, hc, hdn, hd⟩, hlen⟩ := I.list hs
    simp only at hc hd
    subst hc hd
    refine call_meets PySem.F.slot_list_count ⟨_, ho, rfl⟩ PySem.F.entry_list_count (PySem.F.args_list_count_2 _ _) (SeqAt.list_countAt a its.toArray n dd sl uy (eqU y)) ⟨ho, fun u' hu' => mem_eqAt ry fy rv fys u' (by simpa using hu'), ?_⟩
    have e : its.toArray.toList.countP (eqU y) = cntV y ys := by simpa using cnt_rel (y := y) rv fys
    rw [e]
    exact ⟨.int (cntV y ys : Nat), H, I.tok _, ⟨_, rfl⟩, q⟩
theorem mt_countT : MtR X "tuple.count" (rCntT X.K) := by
  intro pins s σ H x xs v us Q I rx rxs h
  obtain ⟨a, ys, y, rfl, rfl, hs, fy, fys, q⟩ := h
  cases rx
  cases rxs with
  | cons ry rt =>
    rename_i uy ut
    cases rt
    obtain ⟨its, rv, ⟨⟨cls, dd, data, sl⟩, ho, hc, n, hd⟩, hlen⟩ := I.tuple hs
    simp only at hc hd
    subst hc hd
    refine call_meets PySem.F.slot_tuple_count ⟨_, ho, rfl⟩ PySem.F.entry_tuple_count (PySem.F.args_tuple_count_2 _ _) (SeqAt.tuple_countAt a its.toArray n dd sl uy (eqU y)) ⟨ho, fun u' hu' => mem_eqAt ry fy rv fys u' (by simpa using hu'), ?_⟩
    have e : its.toArray.toList.countP (eqU y) = cntV y ys := by simpa using cnt_rel (y := y) rv fys
    rw [e]
    exact ⟨.int (cntV y ys : Nat), H, I.tok _, ⟨_, rfl⟩, q⟩
end
def flatD : D → Bool
  | .non => true | .bl _ => true | .int _ => true | .str _ => true | _ => false
def vOf : D → V
  | .bl b => .bl b | .int i => .int i | .str x => .str x | _ => .non
def eqF (x y : D) : Bool := eqV (vOf x) (vOf y)
section
variable {K : PySem.W.Frag} {δ : List S} {to te ta tb ti : TE} {t : TA} {x y z : D} {xs ys : List D}
theorem flat_rp {G : Hp} {v : V} (h : flatD x = true) (r : Rp K G x v) : v = vOf x ∧ flatV v = true := by
  cases r <;> first | exact ⟨rfl, rfl⟩ | simp [flatD] at h
theorem flat_rpl {G : Hp} : ∀ {xs : List D} {vs : List V}, xs.all flatD = true → RpL K G xs vs → vs = xs.map vOf ∧ vs.all flatV = true
  | [], _, _, .nil => ⟨rfl, rfl⟩
  | x :: xs, _, h, .cons r0 r => by
    rw [List.all_cons, Bool.and_eq_true] at h
    obtain ⟨e1, f1⟩ := flat_rp h.1 r0
    obtain ⟨e2, f2⟩ := flat_rpl h.2 r
    rw [e1] at f1
    rw [e2] at f2
    exact ⟨by rw [e1, e2]; rfl, by rw [e1, e2, List.all_cons, f1, f2]; rfl⟩
theorem ev_cnt (h : EV K to δ (.d (.lst xs))) (ha : EA K t δ [y]) (fy : flatD y = true) (fx : xs.all flatD = true) : EV K (tBM K "list" (rCnt K) to t) δ (.d (.int (xs.countP fun z => eqF z y : Nat))) := by
  intro He Ge H τo τs σ hl ok Q q
  refine h He Ge H τo τs σ hl ok _ fun v H1 ok1 => ?_
  obtain ⟨G, ok1⟩ := ok1
  obtain ⟨_, e1, r1⟩ := ok1.top
  cases e1
  cases r1 with
  | lst hp r =>
    refine ⟨.inl ⟨rfl, _, SqL.of (ok1.gh _ _ hp)⟩, ?_⟩
    refine ha He Ge H1 (some _ :: τo) (.d (.lst xs) :: τs) σ (by simp [hl]) ⟨G, ok1⟩ _ fun us H2 G2 ok2 r2 => ?_
    obtain ⟨_, e2, r3⟩ := ok2.top
    cases e2
    cases r3 with
    | lst hp3 r3 =>
      cases r2 with
      | cons ry rn =>
        cases rn
        obtain ⟨e3, f3⟩ := flat_rp fy ry
        obtain ⟨e4, f4⟩ := flat_rpl fx r3
        refine ⟨_, _, _, rfl, rfl, SqL.of (ok2.gh _ _ hp3), f3, f4, ?_⟩
        have e : cntV (vOf y) (xs.map vOf) = xs.countP fun z => eqF z y := by
          unfold cntV eqF
          rw [List.countP_map]; rfl
        rw [e3, e4, e]
        exact q _ _ ⟨G2, ok2.pop.pushD .int⟩
theorem ev_idx {j : Nat} (h : EV K to δ (.d (.lst xs))) (ha : EA K t δ [y]) (fy : flatD y = true) (fx : xs.all flatD = true) (hz : xs[j]? = some z) (ez : eqF z y = true) (hno : ∀ (m : Nat) (z' : D), m < j → xs[m]? = some z' → eqF z' y = false) :
    EV K (tBM K "list" (rIndex K) to t) δ (.d (.int (j : Nat))) := by
  intro He Ge H τo τs σ hl ok Q q
  refine h He Ge H τo τs σ hl ok _ fun v H1 ok1 => ?_
  obtain ⟨G, ok1⟩ := ok1
  obtain ⟨_, e1, r1⟩ := ok1.top
  cases e1
  cases r1 with
  | lst hp r =>
    refine ⟨.inl ⟨rfl, _, SqL.of (ok1.gh _ _ hp)⟩, ?_⟩
    refine ha He Ge H1 (some _ :: τo) (.d (.lst xs) :: τs) σ (by simp [hl]) ⟨G, ok1⟩ _ fun us H2 G2 ok2 r2 => ?_
    obtain ⟨_, e2, r3⟩ := ok2.top
    cases e2
    cases r3 with
    | lst hp3 r3 =>
      cases r2 with
      | cons ry rn =>
        cases rn
        obtain ⟨e3, f3⟩ := flat_rp fy ry
        obtain ⟨e4, f4⟩ := flat_rpl fx r3
        refine ⟨_, _, _, j, vOf z, rfl, rfl, SqL.of (ok2.gh _ _ hp3), f3, f4, by rw [e4, List.getElem?_map, hz]; rfl, by rw [e3]; exact ez, fun m z' hm hz' => ?_, q _ _ ⟨G2, ok2.pop.pushD .int⟩⟩
        rw [e4, List.getElem?_map] at hz'
        obtain ⟨w, ew, rfl⟩ := Option.map_eq_some_iff.mp hz'
        rw [e3]; exact hno m w hm ew
/-- a tuple without a dict of its own -/
def plT (K : PySem.W.Frag) (x : V) (H : Hp) : Prop := ∃ a xs, x = .ref a ∧ SqP K H a xs
theorem plT_is {X : Cx} {pins : List (Addr × Obj)} {σ : L2.St} {H : Hp} {s : Shared} {x : V} {v : Value} (I : Inv X pins σ H s) (r : RelV x v) (h : plT X.K x H) : s.TypeIs v "tuple" ∧ ∀ a, v = .ref a → ∃ ob, s.heap.get? a = some ob ∧ ob.dict = none := by
  obtain ⟨a, xs, rfl, h⟩ := h
  cases r
  obtain ⟨its, _, ht, _⟩ := I.tuple h.t
  refine ⟨ht.typeIs, fun b e => ?_⟩
  cases e
  rcases h with ⟨o, h, _, hd⟩ | ⟨o, its, n, h1, _, hd, _⟩
  · obtain ⟨q, _⟩ := I.hok a _ h
    exact ⟨o, q, hd⟩
  · exact ⟨o, I.kIn a o h1, hd⟩
def tBP (K : PySem.W.Frag) (r : V → List V → Hp → VK → Prop) (to : TE) (t : TA) : TE := fun σ H Q => to σ H fun x H1 => plT K x H1 ∧ t σ H1 fun xs H2 => r x xs H2 Q
section
variable {X : Cx} {name : Str} {id : String} {r : V → List V → Hp → VK → Prop} {o e : Expr} {es : List Expr} {to : TE} {t : TA} {cpos apos : Pos}
theorem pe_bp (pa : PlainAttrs "tuple") (slot : Slot "tuple" name id) (hty : typeOf (.builtin id) = pure (.type "method_descriptor")) (hm : MtR X id r) (ho : PE X o to) (ha : PA X (e :: es) t)
    (hbase : attributeBase o name X.env (eval o X.env) = eval o X.env := by rfl)
    (hfew : ((backTo cpos (starEach (e :: es) X.env)).all (fun x => !x.1) && (backToKw cpos (keywordEach [] X.env)).all (fun x => x.1.isSome)
      && decide ((e :: es).length + ([] : List Keyword).length + (if ([] : List Keyword).isEmpty then 0 else 1) < 30)) = true := by rfl)
    (hline : (apos.endLine == cpos.line) = true := by rfl) (hs : starEach (e :: es) X.env = (false, eval e X.env) :: starEach es X.env := by rfl) (hplain : (backTo cpos (starEach es X.env)).any (·.1) = false := by rfl) :
    PE X (.Call (.Attribute o name apos) (e :: es) [] cpos) (tBP X.K r to t) := by
  refine ⟨fun pins s σ H Q I h => ?_⟩
  refine wpAny_Call_method_late hbase hfew hline rfl (thn (ho.run pins s σ H _ I h) fun v s1 ⟨x, H1, I1, r1, ty, q1⟩ => ?_)
  obtain ⟨h1, h2⟩ := plT_is I1 r1 ty
  refine ⟨"tuple", id, pa, slot, hty, h1, h2, ?_⟩
  have hA := ha.run cpos pins s1 σ H1 _ I1 q1
  rw [hs] at hA ⊢
  refine Calls.callWith_builtin (by show (false || (backTo cpos (starEach es X.env)).any (·.1)) = false; rw [hplain] <;> rfl) (Calls.evalArgs_plain ?_)
  exact thn hA fun us s2 ⟨vs, H2, I2, r2, q2⟩ => hm pins s2 σ H2 x vs v us Q I2 r1 r2 q2
end
theorem ev_cntT (h : EV K to δ (.d (.tup xs))) (ha : EA K t δ [y]) (fy : flatD y = true) (fx : xs.all flatD = true) : EV K (tBP K (rCntT K) to t) δ (.d (.int (xs.countP fun z => eqF z y : Nat))) := by
  intro He Ge H τo τs σ hl ok Q q
  refine h He Ge H τo τs σ hl ok _ fun v H1 ok1 => ?_
  obtain ⟨G, ok1⟩ := ok1
  obtain ⟨_, e1, r1⟩ := ok1.top
  cases e1
  cases r1 with
  | tup hp r =>
    refine ⟨⟨_, _, rfl, ok1.gh.p hp⟩, ?_⟩
    refine ha He Ge H1 (some _ :: τo) (.d (.tup xs) :: τs) σ (by simp [hl]) ⟨G, ok1⟩ _ fun us H2 G2 ok2 r2 => ?_
    obtain ⟨_, e2, r3⟩ := ok2.top
    cases e2
    cases r3 with
    | tup hp3 r3 =>
      cases r2 with
      | cons ry rn =>
        cases rn
        obtain ⟨e3, f3⟩ := flat_rp fy ry
        obtain ⟨e4, f4⟩ := flat_rpl fx r3
        refine ⟨_, _, _, rfl, rfl, ok2.gh.t hp3.t, f3, f4, ?_⟩
        have e : cntV (vOf y) (xs.map vOf) = xs.countP fun z => eqF z y := by
          unfold cntV eqF
          rw [List.countP_map]; rfl
        rw [e3, e4, e]
        exact q _ _ ⟨G2, ok2.pop.pushD .int⟩
variable {W : WX} {N B Ct : List S → Prop} {Rt : S → List S → Prop} {Xc : List S → Addr → List (Str × D) → Prop} {tt uu : TS} {c : TT} {b : Bool}
end
def tEither (t u : TE) : TE := fun σ H Q => t σ H Q ∨ u σ H Q
theorem pe_either {X : Cx} {e : Expr} {t u : TE} (h1 : PE X e t) (h2 : PE X e u) : PE X e (tEither t u) := ⟨fun pins s σ H Q I h => h.elim (h1.run pins s σ H Q I) (h2.run pins s σ H Q I)⟩
theorem pass0C {X : Cx} {σ : L2.St} : PassesAt CX0 X σ E0 := fun pins H s e s' I c => pass0 pins σ H s e s' I c
section
variable {K : PySem.W.Frag} {δ : List S} {t u : TE} {s : S} {c : Addr} {cf : List (Str × D)} {E : L2.St → XK}
theorem ev_eL (h : EV K t δ s) : EV K (tEither t u) δ s := fun He Ge H τo τs σ hl ok Q q => .inl (h He Ge H τo τs σ hl ok Q q)
theorem ev_eR (h : EV K u δ s) : EV K (tEither t u) δ s := fun He Ge H τo τs σ hl ok Q q => .inr (h He Ge H τo τs σ hl ok Q q)
theorem ex_eL (h : EX K E t δ c cf) : EX K E (tEither t u) δ c cf := fun He Ge H τo τs σ hl ok k Q => .inl (h He Ge H τo τs σ hl ok k Q)
theorem ex_eR (h : EX K E u δ c cf) : EX K E (tEither t u) δ c cf := fun He Ge H τo τs σ hl ok k Q => .inr (h He Ge H τo τs σ hl ok k Q)
end
theorem fnok_none {P : Program} {w : World} {K : PySem.W.Frag} {mg : Str → Option Value} {base : Heap} {CX : CXT} {k : Nat} {f : Addr} {fd : FuncData} {ps : List Str} : FnOk P w K mg base CX k f fd ps (spD K fun _ _ => False) :=
  ⟨fun vs H Q E ⟨_, _, _, _, _, z, _⟩ => z.elim, fun A outer s H args us vs Q E hr he hb hv ⟨_, _, _, _, _, z, _⟩ => z.elim⟩
/-- classes named one by one -/
inductive ClsL : List D → List Value → Prop
  | nil : ClsL [] []
  | ty {n : String} {cs : List D} {us : List Value} : ClsL cs us → ClsL (.ty n :: cs) (.type n :: us)
  | cls {a : Addr} {cs : List D} {us : List Value} : ClsL cs us → ClsL (.cls a :: cs) (.ref a :: us)
theorem ClsL.mapM {cs : List D} {us : List Value} (h : ClsL cs us) : cs.mapM clsD = some us := by
  induction h with
  | nil => rfl
  | ty _ ih => rw [List.mapM_cons, ih]; rfl
  | cls _ ih => rw [List.mapM_cons, ih]; rfl
theorem kitAny_t {K : PySem.W.Frag} {t c : Value} {cs : List Value} (h : PySem.W.kitOne K t c = some true) : PySem.W.kitAny K t (c :: cs) = some true := kitAny_cons (r := true) h (fun z => nomatch z) fun _ => rfl
theorem kitAny_f {K : PySem.W.Frag} {t c : Value} {cs : List Value} {r : Bool} (h : PySem.W.kitOne K t c = some false) (hr : PySem.W.kitAny K t cs = some r) : PySem.W.kitAny K t (c :: cs) = some r := kitAny_cons h (fun _ => hr) fun z => nomatch z
theorem ev_chain {K : PySem.W.Frag} {δ : List S} {r r' : R2} {ta tb tc : TE} {x y z : D} {a b : Bool} (ha : EV K ta δ (.d x)) (hb : EV K tb δ (.d y)) (h1 : RV2 K r x y (.d (.bl a))) (hc : EV K tc δ (.d z)) (h2 : RV2 K r' y z (.d (.bl b))) : EV K (tChain r r' ta tb tc) δ (.d (.bl (a && b))) := by
  intro He Ge H τo τs σ hl ok Q q
  refine ha He Ge H τo τs σ hl ok _ fun v H1 ok1 => ?_
  refine hb He Ge H1 (some v :: τo) (.d x :: τs) σ (by simp [hl]) ok1 _ fun u H2 ok2 => ?_
  obtain ⟨G2, ok2⟩ := ok2
  obtain ⟨_, e1, r1⟩ := ok2.top
  obtain ⟨_, e2, r2⟩ := ok2.pop.top
  cases e1; cases e2
  refine h1 He Ge H2 G2 _ _ v u ok2 r2 r1 _ fun w H3 ⟨G3, ok3⟩ => ?_
  obtain ⟨_, e3, r3⟩ := ok3.top
  cases e3; cases r3
  refine ⟨a, rfl, ?_⟩
  have ok4 : OKG K He Ge H3 G3 (some u :: some v :: (τo ++ σ)) (.d y :: .d x :: (τs ++ δ)) := ok3.pop
  cases a with
  | false => exact iteF (q _ _ ⟨G3, ok4.pop.pop.pushD .bl⟩)
  | true =>
    refine iteT (hc He Ge H3 (some u :: some v :: τo) (.d y :: .d x :: τs) σ (by simp [hl]) ⟨G3, ok4⟩ _ fun w H4 ⟨G4, ok5⟩ => ?_)
    obtain ⟨_, e5, r5⟩ := ok5.top
    obtain ⟨_, e6, r6⟩ := ok5.pop.top
    cases e5; cases e6
    exact h2 He Ge H4 G4 _ _ u w ok5.pop.pop.pop r6 r5 Q q
/-- a list of one's own in slot i is data from now on -/
theorem OKG.freezeAt {K : PySem.W.Frag} {He Ge H G : Hp} {σ : L2.St} {δ : List S} {i : Nat} {xs : List D} (ok : OKG K He Ge H G σ δ) (hi : δ[i]? = some (.own xs)) : ∃ G', OKG K He Ge H G' σ (δ.set i (.d (.lst xs))) := by
  obtain ⟨o, eo, p, vs, rfl, h1, h2, h3, r⟩ := ok.sl i _ hi
  have hlt : i < δ.length := (List.getElem?_eq_some_iff.mp hi).1
  have g1 : Ex G (upd G p (.lst vs)) := .new h2
  refine ⟨upd G p (.lst vs), ok.ge.trans g1, ok.gh.lay h3, ok.he, ⟨fun b b1 b2 => ?_, ok.nc.t0, ok.nc.tb.mono (fun _ _ e => e) g1⟩, fun j s hj => ?_, fun j k s t p' hjk hj hk o1 o2 e1 e2 => ?_⟩
  · have z : b ≠ p := fun y => b1 (by rw [y]; exact h1)
    rw [upd_ne z]; exact ok.nc b b1 b2
  · by_cases z : i = j
    · subst z
      rw [List.getElem?_set_self hlt] at hj; cases hj
      exact ⟨_, eo, _, rfl, .lst upd_same (r.mono g1)⟩
    · rw [List.getElem?_set_ne z] at hj
      obtain ⟨o, e, k⟩ := ok.sl j s hj
      refine ⟨o, e, ?_⟩
      cases s with
      | un => trivial
      | ot _ _ _ => trivial
      | d x => obtain ⟨v, e1, r'⟩ := k; exact ⟨v, e1, r'.mono g1⟩
      | own ys =>
        obtain ⟨p2, vs2, rfl, k1, k2, k3, r2⟩ := k
        have ne : p2 ≠ p := fun y => ok.ne i j _ _ p z hi hj rfl rfl eo (by rw [← y]; exact e)
        exact ⟨p2, vs2, rfl, k1, by rw [upd_ne ne]; exact k2, k3, r2.mono g1⟩
      | okd ys =>
        obtain ⟨p2, vs2, rfl, k1, k2, k3, r2⟩ := k
        have ne : p2 ≠ p := fun y => ok.ne i j _ _ p z hi hj rfl rfl eo (by rw [← y]; exact e)
        exact ⟨p2, vs2, rfl, k1, by rw [upd_ne ne]; exact k2, k3, r2.mono g1⟩
      | oko ys =>
        obtain ⟨p2, vs2, rfl, k1, k2, k3⟩ := k
        have ne : p2 ≠ p := fun y => ok.ne i j _ _ p z hi hj rfl rfl eo (by rw [← y]; exact e)
        exact ⟨p2, vs2, rfl, k1, by rw [upd_ne ne]; exact k2, k3⟩
      | ob q C fs =>
        obtain ⟨a, dx, gs, rfl, kq, k1, k2, k3, k4, k5, k6, r'⟩ := k
        have n1 : a ≠ p := fun y => by rw [y, h3] at k5; cases k5
        have n2 : dx ≠ p := fun y => by rw [y, h3] at k6; cases k6
        exact ⟨a, dx, gs, rfl, kq, k1, by rw [upd_ne n1]; exact k2, k3, by rw [upd_ne n2]; exact k4, k5, k6, r'.mono g1⟩
  · have un : ∀ (m : Nat) (s : S), (δ.set i (.d (.lst xs)))[m]? = some s → owned s = true → δ[m]? = some s := fun m s q1 q2 => by
      by_cases z : i = m
      · subst z; rw [List.getElem?_set_self hlt] at q1; cases q1; cases q2
      · rw [List.getElem?_set_ne z] at q1; exact q1
    exact ok.ne j k s t p' hjk (un j s hj o1) (un k t hk o2) o1 o2 e1 e2
theorem sd_frzAt {K : PySem.W.Frag} {δ : List S} {xs : List D} {W : WX} {N B Ct : List S → Prop} {Rt : S → List S → Prop} {Xc : List S → Addr → List (Str × D) → Prop} {t : TS} {i : Nat} (hi : δ[i]? = some (.own xs)) (h : SD K W t (δ.set i (.d (.lst xs))) N Rt B Ct Xc) : SD K W t δ N Rt B Ct Xc := fun He Ge H σ Dn ⟨G, ok⟩ nx r bk ct xx => by
  obtain ⟨G', ok'⟩ := ok.freezeAt hi
  exact h He Ge H σ Dn ⟨G', ok'⟩ nx r bk ct xx
theorem sIx_some {n d : Nat} {a : Int} (h0 : 0 ≤ a) : HT.sIx n d (some a) = min a.toNat n := by
  show (if a < 0 then (a + (n : Int)).toNat else min a.toNat n) = _
  rw [if_neg (by omega)]
theorem cut_to {xs : List D} {a : Int} (h0 : 0 ≤ a) : cutD xs none (some a) = xs.take a.toNat := by
  unfold cutD
  rw [sIx_some h0, HT.sIx_none, List.drop_zero, Nat.sub_zero]
  rcases Nat.le_total a.toNat xs.length with h | h
  · rw [Nat.min_eq_left h]
  · rw [Nat.min_eq_right h, List.take_length, List.take_of_length_le h]
theorem cut_from {xs : List D} {a : Int} (h0 : 0 ≤ a) : cutD xs (some a) none = xs.drop a.toNat := by
  unfold cutD
  rw [sIx_some h0, HT.sIx_none]
  rcases Nat.le_total a.toNat xs.length with h | h
  · rw [Nat.min_eq_left h, List.take_of_length_le (by rw [List.length_drop]; exact Nat.le_refl _)]
  · rw [Nat.min_eq_right h, List.drop_length, List.drop_of_length_le h, List.take_nil]
end Far
namespace Far
open PySem L2 PySem.Spec PyProof.Rows
section
variable {K : PySem.W.Frag} {δ : List S} {E : WX} {N B C : List S → Prop} {R : S → List S → Prop} {X : List S → Addr → List (Str × D) → Prop}
theorem sd_forP {α : Type} {ys : List α} {h : α → D} {wi : TI} {g : TG} {tb : TS} (P : Nat → Prop) (p0 : P 0) (hi : EI K wi δ (ys.map h)) (I : Nat → List S) (h0 : weak δ (I 0))
    (k : ∀ i y, ys[i]? = some y → P i → ∃ δ2, ET K g (I i) (h y) δ2 ∧ SD K E tb δ2 (fun δ' => P (i + 1) ∧ weak δ' (I (i + 1))) R N (fun δ' => P (i + 1) ∧ weak δ' (I (i + 1))) X) (hd : P ys.length → N (I ys.length)) : SD K E (tFor wi g tb) δ N R B C X := by
  intro He Ge H σ Dn ok nx r bk ct xx
  refine hi He Ge H [] [] σ rfl ok _ fun J H1 G ok1 jis => ?_
  have lus : (ys.map h).length = ys.length := List.length_map ..
  refine ⟨fun i m σ2 H2 => i + m = (ys.map h).length ∧ P i ∧ OK K He G H2 σ2 (I i), ⟨(ys.map h).length, by omega, p0, G, (OKG.ground ok1).weak h0⟩, fun i m σ2 H2 ⟨em, pi, G2, ok2⟩ => ?_⟩
  obtain ⟨j1, j2, j3⟩ := jis H2 G2 ok2.ge ok2.gh
  rcases Nat.lt_or_ge i (ys.map h).length with hlt | hge
  · have hy : i < ys.length := by omega
    have ey : ys[i]? = some ys[i] := List.getElem?_eq_getElem hy
    have ex : (ys.map h)[i]? = some (h ys[i]) := by rw [List.getElem?_map, ey]; rfl
    refine .inr ⟨j1 i hlt, fun σ3 H3 => P (i + 1) ∧ OK K He G H3 σ3 (I (i + 1)), fun σ3 H3 k3 => ⟨m - 1, by omega, by omega, k3⟩, fun x H3 hx => ?_⟩
    obtain ⟨G3, y, g1, g2, g3, g4, ey2, rv⟩ := j2 i x H3 hx hlt
    rw [ex] at ey2
    cases ey2
    replace ok2 := ok2.grow g1 g2 g3 (g4.ok ok2.nc.tb)
    obtain ⟨δ2, kt, kb⟩ := k i ys[i] ey pi
    refine kt He G H3 G3 [] [] σ2 x rfl ok2 rv _ fun σ3 ok3 => ?_
    refine kb He G H3 σ3 _ ⟨G3, ok3⟩ ?_ ?_ ?_ ?_ ?_
    · exact fun δ' σ' H' ⟨G', k'⟩ ⟨p, w⟩ => ⟨p, G', k'.weak w⟩
    · exact fun v s σ' δ' H' ⟨G', k', ot⟩ w => r v s σ' δ' H' ⟨G', ok1.unground k', ot⟩ w
    · exact fun δ' σ' H' ⟨G', k'⟩ w => nx δ' σ' H' ⟨G', ok1.unground k'⟩ w
    · exact fun δ' σ' H' ⟨G', k'⟩ ⟨p, w⟩ => ⟨p, G', k'.weak w⟩
    · exact fun c fs cls d G' σ' δ' H' k' k2 w => xx c fs cls d G' σ' δ' H' (ok1.unground k') k2 w
  · have e : i = ys.length := by omega
    subst e
    exact .inl ⟨j3 _ hge, nx _ _ _ ⟨G2, ok1.unground ok2⟩ (hd pi)⟩
end
end Far
namespace Far
open PySem L2 PySem.Spec PyProof.Rows
/-- C(): a new instance and its dict, nothing in it -/
def tNew0 (C : Addr) : TE := fun _ H Q => ∀ x dx, H x = none → H dx = none → dx ≠ x → Q (.ref x) (upd (upd H dx (.own x)) x (.ins C dx []))
/-- what a class must have to be made with object's __init__ -/
structure Mk0 (K : PySem.W.Frag) (C : Addr) : Prop where
  makes : PySem.W.makesIn K C = true
  init : PySem.W.findIn K (.ref C) "__init__" = some (some (.builtin "object.__init__"))
  top : PySem.W.mroIn K C (.type "object") = some true
  kp : PySem.W.keepIn K (.ref C) = true
section
variable {K : PySem.W.Frag} {δ : List S} {C : Addr}
theorem ev_new0 : EV K (tNew0 C) δ (.d (.ins C [])) := by
  intro He Ge H τo τs σ hl ⟨G, ok⟩ Q q
  intro x dx hx hdx ne
  have ok1 := ok.newG (u := .own x) hdx
  have hx1 : upd H dx (.own x) x = none := by rw [upd_ne (Ne.symm ne)]; exact hx
  have ok2 := ok1.newG (u := .ins C dx []) hx1
  exact q _ _ ⟨_, ok2.pushD (.ins upd_same .nil)⟩
end
end Far
namespace Far
open PySem L2 PySem.Spec PyProof.Rows
theorem pe_tupP {X : Cx} {es : List Expr} {t : TA} {pos : Pos} {x1 : Nat} (h : PA X es t) : PE X (.Tuple es x1 pos) (tTupP t) := by
  refine ⟨fun pins s σ H Q I hq => ?_⟩
  refine wpAny_Tuple_spliced (thn (h.run pos pins s σ H _ I hq) fun us s1 ⟨xs, H1, I1, r, z, q⟩ => ⟨by rw [← r.length]; exact z, ?_⟩)
  refine ⟨.ref s1.heap.objs.size, _, I1.laid (t' := s1.toks) (o := .frz _ (.tup xs)) (fun b u e => Heap.get?_push_of_some _ e) (Nat.le_refl _) ⟨Heap.get?_push_size _ rfl, z, us, r, ⟨_, Heap.get?_push_size _ rfl, rfl, _, rfl⟩⟩, rfl, ?_⟩
  exact q _ _ (I1.hok.fresh (Nat.le_refl _)) rfl rfl
theorem turn_long {P : Program} {w : World} {K : PySem.W.Frag} {tg : Expr} (it : Addr) (lo : Int) (n : Nat) : Turn P w K tg (Itr lo n) [it] it (fun i h => IsLongIter h it (lo + (i : Nat) * 1) ((n : Int) - (i : Nat)) 1) where
  mem := by simp
  obj := fun i h st b hb => by
    have e : b = it := by simpa using hb
    subst e
    exact ⟨_, st, fun v z => by
      have z' : Data.fields _ = Data.cell v := z
      cases z'⟩
  keep := fun i h h' st k => k it (by simp) _ st
  item := by
    intro X hP hw hK hc i pins s σ H E I hf st hg
    subst hP hw hK
    obtain ⟨f0, f1, f2, f3, f4, f5⟩ := hf it (by simp)
    have W := Walks.longrange (prog := X.prog) (w := X.w) (I.ok.hd hc) it lo 1 n
    refine W.item i s _ _ hg st fun v h' tk hv st' kk => ?_
    obtain ⟨t, rfl⟩ := hv
    have I1 : Inv X pins σ H { s with heap := h', toks := tk } := I.turned (fun b o hb e => kk b o (by simpa using hb) e) f0 f1 f3 f4 f5
    refine ⟨_, rfl, go_of (s := { s with heap := h', toks := tk }) (n := "longrange_iterator") st' rfl rfl (by decide) ⟨.int (lo + i), H, I1, ⟨t, ?_⟩, ⟨rfl, rfl⟩, st', fun b hb => (hf b hb).1⟩⟩
    rw [Int.mul_one]
  done := by
    intro X hP hw hK hc i pins s σ H E I hf st hg
    subst hP hw hK
    obtain ⟨f0, f1, f2, f3, f4, f5⟩ := hf it (by simp)
    exact wpAny_pyNext_long_end (I.ok.hd hc) st (by have : n ≤ i := hg; omega) fun h' eb => ⟨rfl, I.turned (t' := s.toks) (fun b o hb e => eb b o hb e) f0 f1 f3 f4 f5⟩
  self := fun _ _ _ _ _ st h => wpAny_pyIter_longiter st h
section
variable {X : Cx} {tg : Expr}
theorem range_itW {pins : List (Addr × Obj)} {σ : L2.St} {H : Hp} {s : Shared} {R : It → Hp → Prop} {E : Value → Shared → Prop} {lo hi : Int} {t u v : Tok} {tk : Nat} (I : Inv X pins σ H s)
    (q : R (Itr lo (hi - lo).toNat) H) : wpAny (model X.prog X.w) X.A (pyIter (.ref s.heap.objs.size)) (PIE X pins σ tg R) E { s with heap := s.heap.push { cls := .type "range", data := .fields #[.int lo t, .int hi u, .int 1 v] }, toks := tk } := by
  have I1 : Inv X pins σ H { s with heap := s.heap.push { cls := .type "range", data := .fields #[.int lo t, .int hi u, .int 1 v] }, toks := tk } := I.kept fun b o e => Heap.get?_push_of_some _ e
  have e1 : lo + ((0 : Nat) : Int) * 1 = lo := by simp
  have e2 : (((hi - lo).toNat : Nat) : Int) - ((0 : Nat) : Int) = Builtin.Range.rangeSize lo hi 1 := by rw [rangeSize_one]; split <;> omega
  cases hs : Builtin.Range.small lo hi 1 with
  | true =>
    refine wpAny_pyIter_range (IsRange.new ..) hs ?_
    refine ⟨(s.heap.push { cls := .type "range", data := .fields #[.int lo t, .int hi u, .int 1 v] }).objs.size, [(s.heap.push { cls := .type "range", data := .fields #[.int lo t, .int hi u, .int 1 v] }).objs.size], _, _, H, rfl,
      I1.kept (t' := tk) fun b o e => Heap.get?_push_of_some _ e, turn_range _ lo (hi - lo).toNat, ?_, fun b hb => ?_, q⟩
    · show IsRangeIter _ _ (lo + ((0 : Nat) : Int) * 1) ((((hi - lo).toNat : Nat) : Int) - ((0 : Nat) : Int)) 1
      rw [e1, e2]
      exact Heap.get?_push_size _ rfl
    · have e : b = (s.heap.push { cls := .type "range", data := .fields #[.int lo t, .int hi u, .int 1 v] }).objs.size := by simpa using hb
      subst e
      exact I1.fpOk (Nat.le_refl _) (I1.hok.fresh (Nat.le_refl _))
  | false =>
    refine wpAny_pyIter_longrange (IsRange.new ..) hs ?_
    refine ⟨(s.heap.push { cls := .type "range", data := .fields #[.int lo t, .int hi u, .int 1 v] }).objs.size, [(s.heap.push { cls := .type "range", data := .fields #[.int lo t, .int hi u, .int 1 v] }).objs.size], _, _, H, rfl,
      I1.kept (t' := tk) fun b o e => Heap.get?_push_of_some _ e, turn_long _ lo (hi - lo).toNat, ?_, fun b hb => ?_, q⟩
    · show IsLongIter _ _ (lo + ((0 : Nat) : Int) * 1) ((((hi - lo).toNat : Nat) : Int) - ((0 : Nat) : Int)) 1
      rw [e1, e2]
      exact Heap.get?_push_size _ rfl
    · have e : b = (s.heap.push { cls := .type "range", data := .fields #[.int lo t, .int hi u, .int 1 v] }).objs.size := by simpa using hb
      subst e
      exact I1.fpOk (Nat.le_refl _) (I1.hok.fresh (Nat.le_refl _))
def iRngW1 (ta : TA) : TI := fun σ H R => ta σ H fun vs H1 => ∃ j : Int, vs = [.int j] ∧ R (Itr 0 j.toNat) H1
theorem pi_rangeW1 {a : Expr} {ta : TA} {p pos : Pos} (hg : Gl X "range") (hm : X.mg "range" = none) (ha : PA X [a] ta) (hs : starEach [a] X.env = [(false, eval a X.env)] := by rfl) : PI X tg (.Call (.Name "range" p) [a] [] pos) (iRngW1 ta) := by
  refine ⟨fun pins s σ H R I h => ?_⟩
  refine Call_ (ld_blt I hg hm boot_range (PyProof.Rows.callWith_type1 (thn (ha.run pos pins s σ H _ I h) fun us s1 ⟨vs, H1, I1, r1, q1⟩ => ?_) hs rfl))
  obtain ⟨j, e, q⟩ := q1
  subst e
  cases r1 with
  | cons r rr =>
    cases rr
    obtain ⟨t, rfl⟩ := r
    exact call_range_1 (range_itW I1 (by simpa using q))
end
section
variable {K : PySem.W.Frag} {δ : List S}
theorem ei_rngW1 {n : Int} {tr : TA} (h : EA K tr δ [.int n]) : EI K (iRngW1 tr) δ (rg 0 n.toNat) := by
  intro He Ge H τo τs σ hl ok R q
  refine h He Ge H τo τs σ hl ok _ fun vs H1 G ok1 r1 => ?_
  cases r1 with
  | cons r1 r2 => cases r1; cases r2; exact ⟨n, rfl, q _ H1 G ok1 (jig_of (rp_ints _ _) jis_rng)⟩
end
end Far
namespace Far
open PySem L2
/-- what a run tells: nothing, an exception, or an answer -/
inductive M (α : Type) where
  | no | ex (c : Addr) (fs : List (Str × D)) | ok (a : α)
namespace M
variable {α β : Type}
def bind (m : M α) (f : α → M β) : M β := match m with | .no => .no | .ex c fs => .ex c fs | .ok a => f a
/-- .. where what lets out is not covered -/
def bin (m : M α) (f : α → M β) : M β := match m with | .ok a => f a | _ => .no
def of : Option α → M α | some a => .ok a | none => .no
theorem ok_bind {a : α} {f : α → M β} : (M.ok a).bind f = f a := rfl
theorem ok_bin {a : α} {f : α → M β} : (M.ok a).bin f = f a := rfl
theorem no_bin {f : α → M β} : M.no.bin f = .no := rfl
theorem of_some {a : α} : M.of (some a) = .ok a := rfl
end M
/-- what a statement tells -/
inductive Fl where
  | no | nx (δ : List S) | rt (s : S) | rto (s : S) (δ : List S) | bk (δ : List S) | ct (δ : List S) | ex (δ : List S) (c : Addr) (fs : List (Str × D))
def Fl.next (r : Fl) (f : List S → Fl) : Fl := match r with | .nx δ => f δ | r => r
def Fl.exp {α : Type} (m : M α) (δ : List S) (f : α → Fl) : Fl := match m with | .no => .no | .ex c fs => .ex δ c fs | .ok a => f a
def Fl.exn {α : Type} (m : M α) (f : α → Fl) : Fl := match m with | .ok a => f a | _ => .no
theorem Fl.ok_exp {α : Type} {a : α} {δ : List S} {f : α → Fl} : Fl.exp (.ok a) δ f = f a := rfl
theorem Fl.ok_exn {α : Type} {a : α} {f : α → Fl} : Fl.exn (.ok a) f = f a := rfl
def toD : S → M D | .d x => .ok x | .own xs => .ok (.lst xs) | .okd kvs => .ok (.dK kvs) | .oko kvs => .ok (.dO kvs) | _ => .no
section
variable (K : PySem.W.Frag)
def EVF (W : WX) (te : TE) (δ : List S) : M S → Prop
  | .no => True | .ex c fs => EX K (WE W) te δ c fs | .ok s => EV K te δ s
def EAF (W : WX) (ta : TA) (δ : List S) : M (List D) → Prop
  | .no => True | .ex c fs => EXA K (WE W) ta δ c fs | .ok xs => EA K ta δ xs
def EBF (tt : TT) (δ : List S) : M Bool → Prop
  | .ok b => EB K tt δ b | _ => True
def EIF (ti : TI) (δ : List S) : M (List D) → Prop
  | .ok xs => EI K ti δ xs | _ => True
def EOF (to : TO) (δ : List S) : M (Option Int) → Prop
  | .ok o => EO K to δ o | _ => True
def ETF (g : TG) (δ : List S) (x : D) : Option (List S) → Prop
  | some δ' => ET K g δ x δ' | none => True
def ETsF (g : TGs) (δ : List S) (xs : List D) : Option (List S) → Prop
  | some δ' => ETs K g δ xs δ' | none => True
/-- a statement comes to r -/
def SDR (W : WX) (t : TS) (δ : List S) (r : Fl) : Prop := SD K W t δ (fun δ' => r = .nx δ') (fun s δ' => r = .rt s ∨ r = .rto s δ') (fun δ' => r = .bk δ') (fun δ' => r = .ct δ') (fun δ' c fs => r = .ex δ' c fs)
def SDF (W : WX) (t : TS) (δ : List S) : Fl → Prop
  | .no => True | r => SDR K W t δ r
end
variable (Hy : PySem.W.Frag → Prop)
structure SE where
  t : PySem.W.Frag → WX → TE
  f : List S → M S
  ok : ∀ K, Hy K → ∀ W δ, EVF K W (t K W) δ (f δ)
structure SA where
  t : PySem.W.Frag → WX → TA
  f : List S → M (List D)
  ok : ∀ K, Hy K → ∀ W δ, EAF K W (t K W) δ (f δ)
structure ST where
  t : PySem.W.Frag → WX → TT
  f : List S → M Bool
  ok : ∀ K, Hy K → ∀ W δ, EBF K (t K W) δ (f δ)
structure SI where
  t : PySem.W.Frag → WX → TI
  f : List S → M (List D)
  ok : ∀ K, Hy K → ∀ W δ, EIF K (t K W) δ (f δ)
structure SO where
  t : PySem.W.Frag → WX → TO
  f : List S → M (Option Int)
  ok : ∀ K, Hy K → ∀ W δ, EOF K (t K W) δ (f δ)
structure SG where
  t : PySem.W.Frag → WX → TG
  ix : List Nat
  f : List S → D → Option (List S)
  ok : ∀ K, Hy K → ∀ W δ x, ETF K (t K W) δ x (f δ x)
  gok : ∀ K W vs, (∀ i ∈ ix, i ∈ vs) → GOk (t K W) vs
structure SGs where
  t : PySem.W.Frag → WX → TGs
  ix : List Nat
  n : Nat
  f : List S → List D → Option (List S)
  ok : ∀ K, Hy K → ∀ W δ xs, ETsF K (t K W) δ xs (f δ xs)
  len : ∀ δ xs δ', f δ xs = some δ' → xs.length = n
  gok : ∀ K W vs, (∀ i ∈ ix, i ∈ vs) → GsOk (t K W) vs
structure SS where
  t : PySem.W.Frag → WX → TS
  f : List S → Fl
  ok : ∀ K, Hy K → ∀ W δ, SDF K W (t K W) δ (f δ)
/-- an operation of two places -/
structure O2 where
  r : PySem.W.Frag → R2
  f : D → D → Option S
  ok : ∀ K x y s, f x y = some s → RV2 K (r K) x y s
structure O1 where
  r : PySem.W.Frag → V → Hp → VK → Prop
  f : D → Option S
  ok : ∀ K x s, f x = some s → RV1 K (r K) x s
/-- a builtin function -/
structure OB where
  r : PySem.W.Frag → List V → Hp → VK → Prop
  f : List D → Option S
  ok : ∀ K, Hy K → ∀ xs s, f xs = some s → RVN K (r K) xs s
variable {Hy}
section
variable {K : PySem.W.Frag} {δ : List S} {te ta tb : TE} {tr : TA} {x y z : D} {s : S} {xs : List D} {fs : List (Str × D)} {C : Addr} {R : List D → Out → Prop} {E : L2.St → XK} {c : Addr} {cf : List (Str × D)} {W : WX}
theorem ev_toD (h : EV K te δ s) (e : toD s = .ok x) : EV K te δ (.d x) := by
  cases s with
  | d y => cases e; exact h
  | own ys => cases e; exact ev_frz h
  | okd ys => cases e; exact ev_frzK h
  | oko ys => cases e; exact ev_frzO h
  | _ => cases e
theorem toD_ne {s : S} {c : Addr} {fs : List (Str × D)} : toD s ≠ .ex c fs := by cases s <;> exact fun z => nomatch z
/-- an expression's datum -/
def SE.fd (e : SE Hy) (δ : List S) : M D := (e.f δ).bind toD
theorem SE.okD (e : SE Hy) (hk : Hy K) {W : WX} (h : e.fd δ = .ok x) : EV K (e.t K W) δ (.d x) := by
  have z := e.ok K hk W δ
  unfold SE.fd at h
  cases q : e.f δ with
  | no => rw [q] at h; cases h
  | ex c fs => rw [q] at h; cases h
  | ok s => rw [q] at h z; exact ev_toD z h
theorem SE.exD (e : SE Hy) (hk : Hy K) {W : WX} (h : e.fd δ = .ex c cf) : EX K (WE W) (e.t K W) δ c cf := by
  have z := e.ok K hk W δ
  unfold SE.fd at h
  cases q : e.f δ with
  | no => rw [q] at h; cases h
  | ex c fs => rw [q] at h z; cases h; exact z
  | ok s => rw [q] at h; exact (toD_ne h).elim
theorem SE.okS (e : SE Hy) (hk : Hy K) {W : WX} (h : e.f δ = .ok s) : EV K (e.t K W) δ s := by
  have z := e.ok K hk W δ; rw [h] at z; exact z
theorem SE.exS (e : SE Hy) (hk : Hy K) {W : WX} (h : e.f δ = .ex c cf) : EX K (WE W) (e.t K W) δ c cf := by
  have z := e.ok K hk W δ; rw [h] at z; exact z
theorem SA.okA (e : SA Hy) (hk : Hy K) {W : WX} (h : e.f δ = .ok xs) : EA K (e.t K W) δ xs := by
  have z := e.ok K hk W δ; rw [h] at z; exact z
theorem SA.exA (e : SA Hy) (hk : Hy K) {W : WX} (h : e.f δ = .ex c cf) : EXA K (WE W) (e.t K W) δ c cf := by
  have z := e.ok K hk W δ; rw [h] at z; exact z
theorem ST.okB (e : ST Hy) (hk : Hy K) {W : WX} {b : Bool} (h : e.f δ = .ok b) : EB K (e.t K W) δ b := by
  have z := e.ok K hk W δ; rw [h] at z; exact z
theorem SI.okI (e : SI Hy) (hk : Hy K) {W : WX} (h : e.f δ = .ok xs) : EI K (e.t K W) δ xs := by
  have z := e.ok K hk W δ; rw [h] at z; exact z
theorem SO.okO (e : SO Hy) (hk : Hy K) {W : WX} {o : Option Int} (h : e.f δ = .ok o) : EO K (e.t K W) δ o := by
  have z := e.ok K hk W δ; rw [h] at z; exact z
theorem SG.okG (g : SG Hy) (hk : Hy K) {W : WX} {δ' : List S} (h : g.f δ x = some δ') : ET K (g.t K W) δ x δ' := by
  have z := g.ok K hk W δ x; rw [h] at z; exact z
theorem ex_cb {r : List V → Hp → VK → Prop} (h : EXA K E tr δ c cf) : EX K E (tCB r tr) δ c cf := fun He Ge H τo τs σ hl ok k Q => h He Ge H τo τs σ hl ok k _
theorem ex_un {r : V → Hp → VK → Prop} (h : EX K E ta δ c cf) : EX K E (tUn r ta) δ c cf := fun He Ge H τo τs σ hl ok k Q => h He Ge H τo τs σ hl ok k _
theorem ex_tup (h : EXA K E tr δ c cf) : EX K E (tTupP tr) δ c cf := fun He Ge H τo τs σ hl ok k Q => h He Ge H τo τs σ hl ok k _
theorem ex_lst (h : EXA K E tr δ c cf) : EX K E (tLst tr) δ c cf := fun He Ge H τo τs σ hl ok k Q => h He Ge H τo τs σ hl ok k _
theorem ex_fld {f : Str} (h : EX K E ta δ c cf) : EX K E (tFld K ta f) δ c cf := fun He Ge H τo τs σ hl ok k Q => h He Ge H τo τs σ hl ok k _
theorem ex_methO {m : Str} {sp : Sp} {E' : L2.St → XK} (h : EX K E ta δ c cf) : EX K E (tMethS C m sp E' ta tr) δ c cf := fun He Ge H τo τs σ hl ok k Q => h He Ge H τo τs σ hl ok k _
theorem ex_methA {m : Str} {sp : Sp} {E' : L2.St → XK} (h0 : EV K ta δ (.d (.ins C fs))) (hm : fs.lookup m = none) (h : EXA K E tr δ c cf) : EX K E (tMethS C m sp E' ta tr) δ c cf := by
  intro He Ge H τo τs σ hl ok k Q
  refine h0 He Ge H τo τs σ hl ok _ fun v H1 ok1 => ?_
  obtain ⟨G1, ok1⟩ := ok1
  obtain ⟨_, e1, r1⟩ := ok1.top
  cases e1
  cases r1 with
  | ins hp rf =>
    refine ⟨_, _, _, rfl, ok1.gh _ _ hp, rf.nolook hm, ?_⟩
    exact h He Ge H1 (some _ :: τo) (.d (.ins C fs) :: τs) σ (by simp [hl]) ⟨G1, ok1⟩ (fun cls d G' H' ok' x => k cls d G' H' ok'.pop x) _
theorem ex_callL {sp : Sp} {E' : XK} (h : EXA K E tr δ c cf) : EX K E (tCall sp [] E' tr) δ c cf := fun He Ge H τo τs σ hl ok k Q => h He Ge H τo τs σ hl ok k _
theorem ex_callA' {sp : Sp} {E' : L2.St → XK} (h : EXA K E tr δ c cf) : EX K E (tCallS sp E' tr) δ c cf := fun He Ge H τo τs σ hl ok k Q => h He Ge H τo τs σ hl ok k _
theorem ex_makeA' {sp : Sp} {E' : L2.St → XK} (h : EXA K E tr δ c cf) : EX K E (tMakeS C sp E' tr) δ c cf := fun He Ge H τo τs σ hl ok k Q => h He Ge H τo τs σ hl ok k _
end
section
variable {x y : D}
/-- a slot's datum -/
def gt : List S → Nat → M S
  | .d x :: _, 0 => .ok (.d x)
  | _ :: l, i + 1 => gt l i
  | _, _ => .no
theorem gt_s {l : List S} {s : S} {i : Nat} : gt (s :: l) (i + 1) = gt l i := by cases s <;> rfl
theorem gt_ok : ∀ {δ : List S} {i : Nat} {s : S}, gt δ i = .ok s → ∃ x, s = .d x ∧ δ[i]? = some (.d x)
  | [], i, s, h => by cases i <;> cases h
  | a :: l, 0, s, h => by cases a <;> cases h; exact ⟨_, rfl, rfl⟩
  | a :: l, i + 1, s, h => by rw [gt_s] at h; obtain ⟨x, e, q⟩ := gt_ok h; exact ⟨x, e, by simpa using q⟩
theorem gt_nex : ∀ {δ : List S} {i : Nat} {c : Addr} {fs : List (Str × D)}, gt δ i ≠ .ex c fs
  | [], i, _, _ => by cases i <;> exact fun z => nomatch z
  | a :: l, 0, _, _ => by cases a <;> exact fun z => nomatch z
  | a :: l, i + 1, _, _ => by rw [gt_s]; exact gt_nex
def SE.var (i : Nat) : SE Hy where
  t _ _ := tVar i
  f δ := gt δ i
  ok K hk W δ := by
    cases h : gt δ i with
    | no => trivial
    | ex c fs => exact (gt_nex h).elim
    | ok s => obtain ⟨x, rfl, e⟩ := gt_ok h; exact ev_var e
def SE.int (i : Int) : SE Hy := ⟨fun _ _ => tC (.int i), fun _ => .ok (.d (.int i)), fun _ _ _ _ => ev_int⟩
def SE.bl (i : Bool) : SE Hy := ⟨fun _ _ => tC (.bl i), fun _ => .ok (.d (.bl i)), fun _ _ _ _ => ev_bl⟩
def SE.str (i : Str) : SE Hy := ⟨fun _ _ => tC (.str i), fun _ => .ok (.d (.str i)), fun _ _ _ _ => ev_str⟩
def SE.non : SE Hy := ⟨fun _ _ => tC .non, fun _ => .ok (.d .non), fun _ _ _ _ => ev_non⟩
def SE.ty (n : String) : SE Hy := ⟨fun _ _ => tC (.ty n), fun _ => .ok (.d (.ty n)), fun _ _ _ _ => ev_ty⟩
def SE.cls (a : Addr) : SE Hy := ⟨fun _ _ => tC (.ref a), fun _ => .ok (.d (.cls a)), fun _ _ _ _ => ev_cls⟩
def SA.nil : SA Hy := ⟨fun _ _ => tNil, fun _ => .ok [], fun _ _ _ _ => ea_nil⟩
def SA.cons (e : SE Hy) (r : SA Hy) : SA Hy where
  t K W := tCons (e.t K W) (r.t K W)
  f δ := (e.fd δ).bind fun x => (r.f δ).bind fun xs => .ok (x :: xs)
  ok K hk W δ := by
    cases h : e.fd δ with
    | no => trivial
    | ex c fs => exact exa_head (e.exD hk h)
    | ok x =>
      cases h2 : r.f δ with
      | no => rw [M.ok_bind]; trivial
      | ex c fs => rw [M.ok_bind]; exact exa_tail (e.okD hk h) (r.exA hk h2)
      | ok xs => rw [M.ok_bind]; exact ea_cons (e.okD hk h) (r.okA hk h2)
def SE.op (o : O2) (a b : SE Hy) : SE Hy where
  t K W := tOp (o.r K) (a.t K W) (b.t K W)
  f δ := (a.fd δ).bind fun x => (b.fd δ).bind fun y => .of (o.f x y)
  ok K hk W δ := by
    cases h : a.fd δ with
    | no => trivial
    | ex c fs => exact ex_op1 (a.exD hk h)
    | ok x =>
      rw [M.ok_bind]
      cases h2 : b.fd δ with
      | no => trivial
      | ex c fs => exact ex_op2 (a.okD hk h) (b.exD hk h2)
      | ok y =>
        rw [M.ok_bind]
        cases h3 : o.f x y with
        | none => trivial
        | some s => exact ev_op (a.okD hk h) (b.okD hk h2) (o.ok K x y s h3)
def SE.un (o : O1) (a : SE Hy) : SE Hy where
  t K W := tUn (o.r K) (a.t K W)
  f δ := (a.fd δ).bind fun x => .of (o.f x)
  ok K hk W δ := by
    cases h : a.fd δ with
    | no => trivial
    | ex c fs => exact ex_un (a.exD hk h)
    | ok x =>
      rw [M.ok_bind]
      cases h3 : o.f x with
      | none => trivial
      | some s => exact ev_un (a.okD hk h) (o.ok K x s h3)
def SE.cb (o : OB Hy) (a : SA Hy) : SE Hy where
  t K W := tCB (o.r K) (a.t K W)
  f δ := (a.f δ).bind fun xs => .of (o.f xs)
  ok K hk W δ := by
    cases h : a.f δ with
    | no => trivial
    | ex c fs => exact ex_cb (a.exA hk h)
    | ok x =>
      rw [M.ok_bind]
      cases h3 : o.f x with
      | none => trivial
      | some s => exact ev_cb (a.okA hk h) (o.ok K hk x s h3)
def SE.tup (a : SA Hy) : SE Hy where
  t K W := tTupP (a.t K W)
  f δ := (a.f δ).bind fun xs => if xs.length ≤ sizeLine then .ok (.d (.tup xs)) else .no
  ok K hk W δ := by
    cases h : a.f δ with
    | no => trivial
    | ex c fs => exact ex_tup (a.exA hk h)
    | ok x =>
      rw [M.ok_bind]
      by_cases z : x.length ≤ sizeLine
      · rw [if_pos z]; exact ev_tup (a.okA hk h) z
      · rw [if_neg z]; trivial
def SE.lst (a : SA Hy) : SE Hy where
  t K W := tLst (a.t K W)
  f δ := (a.f δ).bind fun xs => if xs.length ≤ sizeLine then .ok (.own xs) else .no
  ok K hk W δ := by
    cases h : a.f δ with
    | no => trivial
    | ex c fs => exact ex_lst (a.exA hk h)
    | ok x =>
      rw [M.ok_bind]
      by_cases z : x.length ≤ sizeLine
      · rw [if_pos z]; exact ev_lst (a.okA hk h) z
      · rw [if_neg z]; trivial
def RF (F : List D → M S) (xs : List D) (out : Out) : Prop := (∃ s, F xs = .ok s ∧ out = .ret s) ∨ ∃ c cf, F xs = .ex c cf ∧ out = .exc c cf
def RI (C : Addr) (F : Addr → List D → M (List (Str × D))) (xs : List D) (out : Out) : Prop := (∃ fs, (∀ x, F x xs = .ok fs) ∧ out = .ret (.d (.ins C fs))) ∨ ∃ c cf, (∀ x, F x xs = .ex c cf) ∧ out = .exc c cf
open Classical in
/-- a constructor's run: the same whatever the new object's place -/
noncomputable def mkR (F : Addr → List D → M (List (Str × D))) (xs : List D) : M (List (Str × D)) := if ∀ x, F x xs = F 0 xs then F 0 xs else .no
theorem mkR_eq {F : Addr → List D → M (List (Str × D))} {xs : List D} {r : M (List (Str × D))} (h : ∀ x, F x xs = r) : mkR F xs = r := by
  unfold mkR; rw [if_pos (fun x => (h x).trans (h 0).symm)]; exact h 0
theorem mkR_ok {F : Addr → List D → M (List (Str × D))} {xs : List D} {r : M (List (Str × D))} (h : mkR F xs = r) (n : r ≠ .no) : ∀ x, F x xs = r := by
  unfold mkR at h
  split at h
  · rename_i q; intro x; rw [q x]; exact h
  · exact (n h.symm).elim
def SE.call (F : List D → M S) (a : SA Hy) : SE Hy where
  t K W := tCall (spD K (RF F)) [] E0 (a.t K W)
  f δ := (a.f δ).bind fun xs => (F xs).bin .ok
  ok K hk W δ := by
    cases h : a.f δ with
    | no => trivial
    | ex c fs => exact ex_callL (a.exA hk h)
    | ok xs =>
      rw [M.ok_bind]
      cases h2 : F xs with
      | ok s => exact ev_call (a.okA hk h) (.inl ⟨s, h2, rfl⟩)
      | _ => trivial
def SE.callX (F : List D → M S) (a : SA Hy) : SE Hy where
  t K W := tCallS (spD K (RF F)) (WE W) (a.t K W)
  f δ := (a.f δ).bind F
  ok K hk W δ := by
    cases h : a.f δ with
    | no => trivial
    | ex c fs => exact ex_callA' (a.exA hk h)
    | ok xs =>
      rw [M.ok_bind]
      cases h2 : F xs with
      | no => trivial
      | ok s => exact ev_callS (a.okA hk h) (.inl ⟨s, h2, rfl⟩)
      | ex c cf => exact ex_callS (a.okA hk h) (.inr ⟨c, cf, h2, rfl⟩)
noncomputable def SE.make (C : Addr) (F : Addr → List D → M (List (Str × D))) (a : SA Hy) : SE Hy where
  t K W := tMakeS C (spI K C (RI C F)) (fun _ => E0) (a.t K W)
  f δ := (a.f δ).bind fun xs => (mkR F xs).bin fun fs => .ok (.d (.ins C fs))
  ok K hk W δ := by
    cases h : a.f δ with
    | no => trivial
    | ex c fs => exact ex_makeA' (a.exA hk h)
    | ok xs =>
      rw [M.ok_bind]
      cases h2 : mkR F xs with
      | ok fs => exact ev_makeS (a.okA hk h) (.inl ⟨fs, mkR_ok h2 (fun z => nomatch z), rfl⟩)
      | _ => trivial
noncomputable def SE.makeX (C : Addr) (F : Addr → List D → M (List (Str × D))) (a : SA Hy) : SE Hy where
  t K W := tMakeS C (spI K C (RI C F)) (WE W) (a.t K W)
  f δ := (a.f δ).bind fun xs => (mkR F xs).bind fun fs => .ok (.d (.ins C fs))
  ok K hk W δ := by
    cases h : a.f δ with
    | no => trivial
    | ex c fs => exact ex_makeA' (a.exA hk h)
    | ok xs =>
      rw [M.ok_bind]
      cases h2 : mkR F xs with
      | ok fs => exact ev_makeS (a.okA hk h) (.inl ⟨fs, mkR_ok h2 (fun z => nomatch z), rfl⟩)
      | ex c cf => exact ex_makeS (a.okA hk h) (.inr ⟨c, cf, mkR_ok h2 (fun z => nomatch z), rfl⟩)
      | no => trivial
def SE.new0 (C : Addr) : SE Hy := ⟨fun _ _ => tNew0 C, fun _ => .ok (.d (.ins C [])), fun _ _ _ _ => ev_new0⟩
/-- an instance of C without an attribute m of its own -/
def ofC (C : Addr) (m : Str) : D → Bool
  | .ins C' fs => decide (C' = C) && (fs.lookup m).isNone
  | _ => false
theorem ofC_to {C : Addr} {m : Str} {x : D} (h : ofC C m x = true) : ∃ fs, x = .ins C fs ∧ fs.lookup m = none := by
  cases x with
  | ins C' fs =>
    unfold ofC at h
    rw [Bool.and_eq_true, decide_eq_true_eq] at h
    obtain ⟨rfl, h⟩ := h
    refine ⟨fs, rfl, ?_⟩
    cases e : fs.lookup m with
    | none => rfl
    | some v => rw [e] at h; cases h
  | _ => exact (nomatch h)
def SE.meth (C : Addr) (m : Str) (F : List D → M S) (o : SE Hy) (a : SA Hy) : SE Hy where
  t K W := tMethS C m (spD K (RF F)) (fun _ => E0) (o.t K W) (a.t K W)
  f δ := (o.fd δ).bind fun x => if ofC C m x = true then (a.f δ).bind fun xs => (F (x :: xs)).bin .ok else .no
  ok K hk W δ := by
    cases h : o.fd δ with
    | no => trivial
    | ex c fs => exact ex_methO (o.exD hk h)
    | ok x =>
      rw [M.ok_bind]
      by_cases z : ofC C m x = true
      · rw [if_pos z]
        obtain ⟨fs, rfl, hm⟩ := ofC_to z
        cases h1 : a.f δ with
        | no => trivial
        | ex c cf => exact ex_methA (o.okD hk h) hm (a.exA hk h1)
        | ok xs =>
          rw [M.ok_bind]
          cases h2 : F (.ins C fs :: xs) with
          | ok s => exact ev_methS (o.okD hk h) hm (a.okA hk h1) (.inl ⟨s, h2, rfl⟩)
          | _ => trivial
      · rw [if_neg z]; trivial
/-- one of two readings: the first that is covered -/
def SE.either (a b : SE Hy) : SE Hy where
  t K W := tEither (a.t K W) (b.t K W)
  f δ := match a.f δ with | .no => b.f δ | r => r
  ok K hk W δ := by
    cases h : a.f δ with
    | no =>
      show EVF K W _ δ (b.f δ)
      cases h2 : b.f δ with
      | no => trivial
      | ex c cf => exact ex_eR (b.exS hk h2)
      | ok s => exact ev_eR (b.okS hk h2)
    | ex c cf => exact ex_eL (a.exS hk h)
    | ok s => exact ev_eL (a.okS hk h)
/-- the classes of which the field f is known -/
def FldOk (Hy : PySem.W.Frag → Prop) (f : Str) (Cs : List Addr) : Prop := ∀ K, Hy K → ∀ C ∈ Cs, Cls K C ∧ NoAttr K C f
theorem fo_nil {f : Str} : FldOk Hy f [] := fun _ _ _ h => nomatch h
theorem fo_cons {f : Str} {C : Addr} {Cs : List Addr} (h : ∀ K, Hy K → Cls K C ∧ NoAttr K C f) (r : FldOk Hy f Cs) : FldOk Hy f (C :: Cs) := fun K hk D hD => by
  rcases List.mem_cons.mp hD with rfl | z
  · exact h K hk
  · exact r K hk D z
def fldF (Cs : List Addr) (f : Str) : D → Option D
  | .ins C fs => if C ∈ Cs then fs.lookup f else none
  | _ => none
def SE.fld (f : Str) (Cs : List Addr) (h : FldOk Hy f Cs) (o : SE Hy) : SE Hy where
  t K W := tFld K (o.t K W) f
  f δ := (o.fd δ).bind fun x => (M.of (fldF Cs f x)).bin fun y => .ok (.d y)
  ok K hk W δ := by
    cases h0 : o.fd δ with
    | no => trivial
    | ex c fs => exact ex_fld (o.exD hk h0)
    | ok x =>
      rw [M.ok_bind]
      cases h1 : fldF Cs f x with
      | none => trivial
      | some y =>
        cases x <;> simp only [fldF] at h1 <;> try (cases h1; done)
        rename_i C fs
        by_cases z : C ∈ Cs
        · rw [if_pos z] at h1
          obtain ⟨c, n⟩ := h K hk C z
          exact ev_fld (o.okD hk h0) c n h1
        · rw [if_neg z] at h1; cases h1
def tru : D → Option Bool
  | .non => some false | .bl b => some b | .int i => some (i != 0) | .str x => if x.length ≤ sizeLine then some ((x.length : Int) != 0) else none
  | .lst xs => some (!xs.isEmpty) | .tup xs => some (!xs.isEmpty) | _ => none
theorem tru_ok {b : Bool} (h : tru x = some b) : TrD x b := by
  cases x <;> simp only [tru] at h <;> try (cases h; done)
  · cases h; exact .non
  · cases h; exact .bl _
  · cases h; exact .int _
  · split at h
    · rename_i z; cases h; exact .str _ z
    · cases h
  · cases h; exact .tup _
  · cases h; exact .lst _
def SE.orE (a b : SE Hy) : SE Hy where
  t K W := tOrT K (a.t K W) (b.t K W)
  f δ := (a.fd δ).bin fun x => (M.of (tru x)).bin fun k => if k = true then .ok (.d x) else (b.f δ).bin .ok
  ok K hk W δ := by
    cases h : a.fd δ with
    | ok x =>
      rw [M.ok_bin]
      cases h1 : tru x with
      | none => trivial
      | some k =>
        rw [M.of_some, M.ok_bin]
        cases k with
        | true => rw [if_pos rfl]; exact ev_is (ev_orT (s2 := .un) (a.okD hk h) (tru_ok h1) fun z => nomatch z) rfl
        | false =>
          rw [if_neg (fun z => nomatch z)]
          cases h2 : b.f δ with
          | ok s => exact ev_is (ev_orT (a.okD hk h) (tru_ok h1) fun _ => b.okS hk h2) rfl
          | _ => trivial
    | _ => trivial
def SE.andE (a b : SE Hy) : SE Hy where
  t K W := tAndT K (a.t K W) (b.t K W)
  f δ := (a.fd δ).bin fun x => (M.of (tru x)).bin fun k => if k = true then (b.f δ).bin .ok else .ok (.d x)
  ok K hk W δ := by
    cases h : a.fd δ with
    | ok x =>
      rw [M.ok_bin]
      cases h1 : tru x with
      | none => trivial
      | some k =>
        rw [M.of_some, M.ok_bin]
        cases k with
        | false => rw [if_neg (fun z => nomatch z)]; exact ev_is (ev_andT (s2 := .un) (a.okD hk h) (tru_ok h1) fun z => nomatch z) rfl
        | true =>
          rw [if_pos rfl]
          cases h2 : b.f δ with
          | ok s => exact ev_is (ev_andT (a.okD hk h) (tru_ok h1) fun _ => b.okS hk h2) rfl
          | _ => trivial
    | _ => trivial
def SE.notE (a : SE Hy) : SE Hy where
  t K W := tNotT K (a.t K W)
  f δ := (a.fd δ).bin fun x => (M.of (tru x)).bin fun k => .ok (.d (.bl (!k)))
  ok K hk W δ := by
    cases h : a.fd δ with
    | ok x =>
      rw [M.ok_bin]
      cases h1 : tru x with
      | none => trivial
      | some k => exact ev_notT (a.okD hk h) (tru_ok h1)
    | _ => trivial
def asB : S → M Bool | .d (.bl b) => .ok b | _ => .no
def ST.of (e : SE Hy) : ST Hy where
  t K W := tTest (e.t K W)
  f δ := (e.f δ).bin asB
  ok K hk W δ := by
    cases h : e.f δ with
    | ok s =>
      rw [M.ok_bin]
      cases h1 : asB s with
      | ok b =>
        have : s = .d (.bl b) := by
          cases s with
          | d x => cases x <;> cases h1; rfl
          | _ => cases h1
        subst this
        exact eb_test (e.okS hk h)
      | _ => trivial
    | _ => trivial
def ST.tru (e : SE Hy) : ST Hy where
  t K W := tTru K (e.t K W)
  f δ := (e.fd δ).bin fun x => .of (Far.tru x)
  ok K hk W δ := by
    cases h : e.fd δ with
    | ok x =>
      rw [M.ok_bin]
      cases h1 : Far.tru x with
      | none => trivial
      | some b => exact eb_tru (e.okD hk h) (tru_ok h1)
    | _ => trivial
def ST.not (c : ST Hy) : ST Hy where
  t K W := tNot (c.t K W)
  f δ := (c.f δ).bin fun b => .ok (!b)
  ok K hk W δ := by
    cases h : c.f δ with
    | ok b => exact eb_not (c.okB hk h)
    | _ => trivial
def ST.and (c e : ST Hy) : ST Hy where
  t K W := tAnd (c.t K W) (e.t K W)
  f δ := (c.f δ).bin fun b => if b = true then (e.f δ).bin .ok else .ok false
  ok K hk W δ := by
    cases h : c.f δ with
    | ok b =>
      rw [M.ok_bin]
      cases b with
      | false => rw [if_neg (fun z => nomatch z)]; exact eb_andF (c.okB hk h)
      | true =>
        rw [if_pos rfl]
        cases h2 : e.f δ with
        | ok k => exact eb_is (eb_and (c.okB hk h) fun _ => e.okB hk h2) (by cases k <;> rfl)
        | _ => trivial
    | _ => trivial
def ST.or (c e : ST Hy) : ST Hy where
  t K W := tOr (c.t K W) (e.t K W)
  f δ := (c.f δ).bin fun b => if b = true then .ok true else (e.f δ).bin .ok
  ok K hk W δ := by
    cases h : c.f δ with
    | ok b =>
      rw [M.ok_bin]
      cases b with
      | true => rw [if_pos rfl]; exact eb_orT (c.okB hk h)
      | false =>
        rw [if_neg (fun z => nomatch z)]
        cases h2 : e.f δ with
        | ok k => exact eb_is (eb_or (c.okB hk h) fun _ => e.okB hk h2) (by cases k <;> rfl)
        | _ => trivial
    | _ => trivial
def ST.yes : ST Hy := ⟨fun _ _ => tYes, fun _ => .ok true, fun _ _ _ _ => eb_yes⟩
def asBl : Option S → M Bool | some (.d (.bl b)) => .ok b | _ => .no
theorem asBl_to {o : Option S} {b : Bool} (h : asBl o = .ok b) : o = some (.d (.bl b)) := by
  cases o with
  | none => cases h
  | some s =>
    cases s with
    | d x => cases x <;> cases h; rfl
    | _ => cases h
def SE.chain (o p : O2) (a b c : SE Hy) : SE Hy where
  t K W := tChain (o.r K) (p.r K) (a.t K W) (b.t K W) (c.t K W)
  f δ := (a.fd δ).bin fun x => (b.fd δ).bin fun y => (asBl (o.f x y)).bin fun k => (c.fd δ).bin fun z => (asBl (p.f y z)).bin fun l => .ok (.d (.bl (k && l)))
  ok K hk W δ := by
    cases h1 : a.fd δ with
    | ok x =>
      cases h2 : b.fd δ with
      | ok y =>
        cases h3 : asBl (o.f x y) with
        | ok k =>
          cases h4 : c.fd δ with
          | ok z =>
            cases h5 : asBl (p.f y z) with
            | ok l =>
              simp only [M.ok_bin, h3, h5]
              exact ev_chain (a.okD hk h1) (b.okD hk h2) (o.ok K x y _ (asBl_to h3)) (c.okD hk h4) (p.ok K y z _ (asBl_to h5))
            | _ => simp only [M.ok_bin, h3, h5]; trivial
          | _ => simp only [M.ok_bin, h3]; trivial
        | _ => simp only [M.ok_bin, h3]; trivial
      | _ => trivial
    | _ => trivial
def SO.none : SO Hy := ⟨fun _ _ => tNoPart, fun _ => .ok .none, fun _ _ _ _ => eo_none⟩
def asI : D → M (Option Int) | .int i => .ok (some i) | _ => .no
def SO.some (e : SE Hy) : SO Hy where
  t K W := tPart (e.t K W)
  f δ := (e.fd δ).bin asI
  ok K hk W δ := by
    cases h : e.fd δ with
    | ok x =>
      rw [M.ok_bin]
      cases x with
      | int i => exact eo_some (e.okD hk h)
      | _ => trivial
    | _ => trivial
def cutF (x : D) (lo hi : Option Int) : M S := match x with
  | .lst xs => .ok (.own (cutD xs lo hi)) | .tup xs => .ok (.d (.tup (cutD xs lo hi))) | .str z => if z.length ≤ sizeLine then .ok (.d (.str (cutS z lo hi))) else .no | _ => .no
def SE.sl (a : SE Hy) (lo hi : SO Hy) : SE Hy where
  t K W := tSl (rSlU K) (a.t K W) (lo.t K W) (hi.t K W)
  f δ := (a.fd δ).bin fun x => (lo.f δ).bin fun l => (hi.f δ).bin fun h => cutF x l h
  ok K hk W δ := by
    cases h1 : a.fd δ with
    | ok x =>
      cases h2 : lo.f δ with
      | ok l =>
        cases h3 : hi.f δ with
        | ok h =>
          simp only [M.ok_bin]
          cases x with
          | lst xs => exact ev_slL (a.okD hk h1) (lo.okO hk h2) (hi.okO hk h3)
          | tup xs => exact ev_slT (a.okD hk h1) (lo.okO hk h2) (hi.okO hk h3)
          | str z =>
            show EVF K W _ δ (if _ then _ else _)
            by_cases q : z.length ≤ sizeLine
            · rw [if_pos q]; exact ev_slS (a.okD hk h1) (lo.okO hk h2) (hi.okO hk h3) q
            · rw [if_neg q]; trivial
          | _ => trivial
        | _ => trivial
      | _ => trivial
    | _ => trivial
end
end Far
namespace Far
open PySem L2
variable {Hy : PySem.W.Frag → Prop}
section
variable {K : PySem.W.Frag} {δ : List S} {te ta tb : TE} {tr : TA} {x y z : D} {s : S} {xs : List D} {fs : List (Str × D)} {C : Addr} {c : Addr} {cf : List (Str × D)} {W : WX}
def SI.seq (e : SE Hy) : SI Hy where
  t K W := iSeq K (e.t K W)
  f δ := (e.fd δ).bin fun x => match x with | .lst xs => .ok xs | .tup xs => .ok xs | _ => .no
  ok K hk W δ := by
    cases h : e.fd δ with
    | ok x =>
      rw [M.ok_bin]
      cases x with
      | lst xs => exact ei_seqL (e.okD hk h)
      | tup xs => exact ei_seqT (e.okD hk h)
      | _ => trivial
    | _ => trivial
def SI.tup (e : SE Hy) : SI Hy where
  t K W := iTup K (e.t K W)
  f δ := (e.fd δ).bin fun x => match x with | .tup xs => .ok xs | _ => .no
  ok K hk W δ := by
    cases h : e.fd δ with
    | ok x =>
      rw [M.ok_bin]
      cases x with
      | tup xs => exact ei_tup (e.okD hk h)
      | _ => trivial
    | _ => trivial
def inR (n : Int) : Bool := decide (-(2 ^ 62) ≤ n) && decide (n < 2 ^ 62)
def SI.rng1 (a : SA Hy) : SI Hy where
  t K W := iRngW1 (a.t K W)
  f δ := (a.f δ).bin fun xs => match xs with | [.int n] => .ok (rg 0 n.toNat) | _ => .no
  ok K hk W δ := by
    cases h : a.f δ with
    | ok xs =>
      rw [M.ok_bin]
      split
      · exact ei_rngW1 (a.okA hk h)
      · trivial
    | _ => trivial
theorem et_seqU {n : Nat} {gs : TGs} {δ' : List S} (h : ETs K gs δ xs δ') (hn : xs.length = n) : ET K (gSeq K n gs) δ (.utp xs) δ' := fun He Ge H G τo τs σ v hl ok r Q q => .inl (et_utp h hn He Ge H G τo τs σ v hl ok r Q q)
def SG.name (i : Nat) : SG Hy where
  t _ _ := gName i
  ix := [i]
  f δ x := if i < δ.length then some (δ.set i (.d x)) else none
  ok K hk W δ x := by
    by_cases z : i < δ.length
    · simp only [if_pos z]; exact et_name z
    · simp only [if_neg z]; trivial
  gok K W vs h := gok_name (h i (List.mem_singleton.mpr rfl))
def SGs.nil : SGs Hy where
  t _ _ := gNil
  ix := []
  n := 0
  f δ xs := match xs with | [] => some δ | _ => none
  ok K hk W δ xs := by cases xs with
    | nil => exact .nil
    | cons => trivial
  len δ xs δ' h := by cases xs with
    | nil => rfl
    | cons => cases h
  gok K W vs h := gsok_nil
def SGs.cons (i : Nat) (r : SGs Hy) : SGs Hy where
  t K W := gCons (gName i) (r.t K W)
  ix := i :: r.ix
  n := r.n + 1
  f δ xs := match xs with | x :: xs => if i < δ.length then r.f (δ.set i (.d x)) xs else none | [] => none
  ok K hk W δ xs := by cases xs with
    | nil => trivial
    | cons x xs =>
      by_cases z : i < δ.length
      · simp only [if_pos z]
        have q := r.ok K hk W (δ.set i (.d x)) xs
        cases h : r.f (δ.set i (.d x)) xs with
        | none => trivial
        | some δ' => rw [h] at q; exact .cons (et_name z) q
      · simp only [if_neg z]; trivial
  len δ xs δ' h := by cases xs with
    | nil => cases h
    | cons x xs =>
      by_cases z : i < δ.length
      · simp only [if_pos z] at h; exact congrArg (· + 1) (r.len _ _ _ h)
      · simp only [if_neg z] at h; cases h
  gok K W vs h := gsok_name (h i (List.mem_cons_self ..)) (r.gok K W vs fun j hj => h j (List.mem_cons_of_mem _ hj))
def SG.seq (n : Nat) (r : SGs Hy) : SG Hy where
  t K W := gSeq K n (r.t K W)
  ix := r.ix
  f δ x := if r.n = n then (match x with | .tup xs => r.f δ xs | .utp xs => r.f δ xs | .lst xs => r.f δ xs | _ => none) else none
  ok K hk W δ x := by
    by_cases hn : r.n = n
    · rw [if_pos hn]
      cases x with
      | tup xs =>
        have q := r.ok K hk W δ xs
        show ETF K _ δ _ (r.f δ xs)
        cases h : r.f δ xs with
        | none => trivial
        | some δ' => rw [h] at q; exact et_seqT q ((r.len _ _ _ h).trans hn)
      | utp xs =>
        have q := r.ok K hk W δ xs
        show ETF K _ δ _ (r.f δ xs)
        cases h : r.f δ xs with
        | none => trivial
        | some δ' => rw [h] at q; exact et_seqU q ((r.len _ _ _ h).trans hn)
      | lst xs =>
        have q := r.ok K hk W δ xs
        show ETF K _ δ _ (r.f δ xs)
        cases h : r.f δ xs with
        | none => trivial
        | some δ' => rw [h] at q; exact et_seqL q ((r.len _ _ _ h).trans hn)
      | _ => trivial
    · rw [if_neg hn]; trivial
  gok K W vs h := gok_seq (r.gok K W vs h)
def lcF (st : D → M (Option D)) : List D → M (List D)
  | [] => .ok []
  | y :: r => (st y).bin fun o => (lcF st r).bin fun xs => .ok (match o with | some x => x :: xs | none => xs)
def stP (st : D → M (Option D)) (y : D) : Bool := match st y with | .ok (some _) => true | _ => false
def stV (st : D → M (Option D)) (y : D) : D := match st y with | .ok (some x) => x | _ => .non
theorem lcF_to {st : D → M (Option D)} : ∀ {ys xs : List D}, lcF st ys = .ok xs → (∀ y ∈ ys, ∃ o, st y = .ok o) ∧ xs = (ys.filter (stP st)).map (stV st)
  | [], xs, h => by
    cases h
    exact ⟨fun _ h => (nomatch h), rfl⟩
  | y :: r, xs, h => by
    unfold lcF at h
    cases e : st y with
    | ok o =>
      cases e2 : lcF st r with
      | ok zs =>
        rw [e, M.ok_bin, e2, M.ok_bin] at h
        obtain ⟨q1, q2⟩ := lcF_to e2
        refine ⟨fun w hw => ?_, ?_⟩
        · rcases List.mem_cons.mp hw with rfl | hw
          · exact ⟨o, e⟩
          · exact q1 w hw
        · cases o with
          | none =>
            have p : stP st y = false := by unfold stP; rw [e]
            rw [List.filter_cons, p]; cases h; exact q2
          | some x =>
            have p : stP st y = true := by unfold stP; rw [e]
            have v : stV st y = x := by unfold stV; rw [e]
            rw [List.filter_cons, p]; cases h
            show x :: zs = stV st y :: _
            rw [v, q2]
      | _ => rw [e, M.ok_bin, e2] at h; cases h
    | _ => rw [e] at h; cases h
/-- what a comprehension's block does with an item -/
def lcS (g : SG Hy) (c : ST Hy) (e : SE Hy) (δ : List S) (y : D) : M (Option D) := (M.of (g.f δ y)).bin fun δ2 => (c.f δ2).bin fun b => if b = true then (e.fd δ2).bin fun x => .ok (some x) else .ok none
def SE.lc (i : SI Hy) (g : SG Hy) (c : ST Hy) (e : SE Hy) (vs : List Nat) : SE Hy where
  t K W := tLc (i.t K W) (g.t K W) (c.t K W) (e.t K W) vs
  f δ := (i.f δ).bin fun ys => if g.ix.all (fun i => vs.contains i) = true ∧ ys.length ≤ sizeLine then (lcF (lcS g c e (hide δ vs)) ys).bin fun xs => .ok (.own xs) else .no
  ok K hk W δ := by
    cases h : i.f δ with
    | ok ys =>
      rw [M.ok_bin]
      by_cases zz : g.ix.all (fun i => vs.contains i) = true ∧ ys.length ≤ sizeLine
      · rw [if_pos zz]
        obtain ⟨hv, z⟩ := zz
        cases h2 : lcF (lcS g c e (hide δ vs)) ys with
        | ok xs =>
          obtain ⟨q1, rfl⟩ := lcF_to h2
          refine ev_lcF (i.okI hk h) (g.gok K W vs (fun i hi => by have := List.all_eq_true.mp hv i hi; simpa using this)) z fun y hy => ?_
          obtain ⟨o, ho⟩ := q1 y hy
          have ho' := ho
          unfold lcS at ho
          cases h3 : g.f (hide δ vs) y with
          | none => rw [h3] at ho; cases ho
          | some δ2 =>
            rw [h3, M.of_some, M.ok_bin] at ho
            refine ⟨δ2, g.okG hk h3, ?_⟩
            cases h4 : c.f δ2 with
            | ok b =>
              rw [h4, M.ok_bin] at ho
              cases b with
              | false =>
                rw [if_neg (fun z => nomatch z)] at ho
                cases ho
                have p : stP (lcS g c e (hide δ vs)) y = false := by unfold stP; rw [ho']
                rw [p]
                exact ⟨c.okB hk h4, fun z => nomatch z⟩
              | true =>
                rw [if_pos rfl] at ho
                cases h5 : e.fd δ2 with
                | ok x =>
                  rw [h5, M.ok_bin] at ho
                  cases ho
                  have p : stP (lcS g c e (hide δ vs)) y = true := by unfold stP; rw [ho']
                  have v : stV (lcS g c e (hide δ vs)) y = x := by unfold stV; rw [ho']
                  rw [p, v]
                  exact ⟨c.okB hk h4, fun _ => e.okD hk h5⟩
                | _ => rw [h5] at ho; cases ho
            | _ => rw [h4] at ho; cases ho
        | _ => trivial
      · rw [if_neg zz]; trivial
    | _ => trivial
theorem sdr_mono {N' B' C' : List S → Prop} {R' : S → List S → Prop} {X' : List S → Addr → List (Str × D) → Prop} {t : TS} {r : Fl} (h : SDR K W t δ r) (n : ∀ δ', r = .nx δ' → N' δ') (rt : ∀ s δ', r = .rt s → R' s δ') (b : ∀ δ', r = .bk δ' → B' δ') (c : ∀ δ', r = .ct δ' → C' δ') (x : ∀ δ' a fs, r = .ex δ' a fs → X' δ' a fs) (ro : ∀ s δ', r = .rto s δ' → R' s δ') : SD K W t δ N' R' B' C' X' := sd_mono h n (fun s δ' e => e.elim (rt s δ') (ro s δ')) b c x
theorem sdf_of {t : TS} {r : Fl} (h : r ≠ .no → SDR K W t δ r) : SDF K W t δ r := by
  cases r with
  | no => trivial
  | _ => exact h fun z => nomatch z
theorem sdf_to {t : TS} {r : Fl} (h : SDF K W t δ r) (n : r ≠ .no) : SDR K W t δ r := by
  cases r with
  | no => exact (n rfl).elim
  | _ => exact h
theorem SS.okR (s : SS Hy) (hk : Hy K) (n : s.f δ ≠ .no) : SDR K W (s.t K W) δ (s.f δ) := sdf_to (s.ok K hk W δ) n
def SS.skip : SS Hy := ⟨fun _ _ => tNext, fun δ => .nx δ, fun _ _ _ _ => sd_next rfl⟩
def SS.brk : SS Hy := ⟨fun _ _ => tBreak, fun δ => .bk δ, fun _ _ _ _ => sd_break rfl⟩
def SS.cnt : SS Hy := ⟨fun _ _ => tCont, fun δ => .ct δ, fun _ _ _ _ => sd_cont rfl⟩
def SS.seq (a b : SS Hy) : SS Hy where
  t K W := tSeq (a.t K W) (b.t K W)
  f δ := (a.f δ).next b.f
  ok K hk W δ := by
    refine sdf_of fun n => sd_seq ?_
    have na : a.f δ ≠ .no := fun z => n (by rw [z]; rfl)
    refine sdr_mono (a.okR hk na) (fun δ' e => ?_) (fun s _ e => by rw [e]; exact .inl rfl) (fun δ' e => by rw [e]; rfl) (fun δ' e => by rw [e]; rfl) (fun δ' c fs e => by rw [e]; rfl) (fun s _ e => by rw [e]; exact .inr rfl)
    rw [e] at n ⊢
    exact b.okR hk n
/-- a return hands on no tuple with a list of one's own -/
def retS : S → Fl
  | .ot _ _ _ => .no | s => .rt s
theorem retS_ot {s : S} (h : retS s ≠ .no) : retS s = .rt s ∧ notOt s = true := by
  cases s with
  | ot A xs B => exact (h rfl).elim
  | _ => exact ⟨rfl, rfl⟩
def SS.ret (e : SE Hy) : SS Hy where
  t K W := tRet (e.t K W)
  f δ := Fl.exp (e.f δ) δ retS
  ok K hk W δ := by
    cases h : e.f δ with
    | no => trivial
    | ex c fs => exact sd_retX (e.exS hk h) rfl
    | ok s =>
      by_cases z : retS s = .no
      · show SDF K W _ δ (retS s)
        rw [z]; trivial
      · obtain ⟨z1, z2⟩ := retS_ot z
        show SDF K W _ δ (retS s)
        rw [z1]
        exact sd_ret (e.okS hk h) z2 (.inl rfl)
def SS.drop (e : SE Hy) : SS Hy where
  t K W := tDrop (e.t K W)
  f δ := Fl.exp (e.f δ) δ fun _ => .nx δ
  ok K hk W δ := by
    cases h : e.f δ with
    | no => trivial
    | ex c fs => exact sd_dropX (e.exS hk h) rfl
    | ok s => exact sd_drop (e.okS hk h) rfl
/-- x = e, a list that is made here stays one's own -/
def SS.set (i : Nat) (e : SE Hy) : SS Hy where
  t K W := tAsg (e.t K W) (gName i)
  f δ := Fl.exp (e.f δ) δ fun s => if i < δ.length then .nx (δ.set i s) else .no
  ok K hk W δ := by
    cases h : e.f δ with
    | no => trivial
    | ex c fs => exact sd_asgX (e.exS hk h) rfl
    | ok s =>
      rw [Fl.ok_exp]
      by_cases z : i < δ.length
      · rw [if_pos z]; exact sd_set (e.okS hk h) z rfl
      · rw [if_neg z]; trivial
/-- x = e, told as data -/
def SS.setD (i : Nat) (e : SE Hy) : SS Hy where
  t K W := tAsg (e.t K W) (gName i)
  f δ := Fl.exp (e.fd δ) δ fun x => if i < δ.length then .nx (δ.set i (.d x)) else .no
  ok K hk W δ := by
    cases h : e.fd δ with
    | no => trivial
    | ex c fs => exact sd_asgX (e.exD hk h) rfl
    | ok s =>
      rw [Fl.ok_exp]
      by_cases z : i < δ.length
      · rw [if_pos z]; exact sd_set (e.okD hk h) z rfl
      · rw [if_neg z]; trivial
def SS.ite (c : ST Hy) (a b : SS Hy) : SS Hy where
  t K W := tIfS (c.t K W) (a.t K W) (b.t K W)
  f δ := Fl.exn (c.f δ) fun k => if k = true then a.f δ else b.f δ
  ok K hk W δ := by
    cases h : c.f δ with
    | ok k =>
      rw [Fl.ok_exn]
      cases k with
      | true => rw [if_pos rfl]; exact sdf_of fun n => sd_if (c.okB hk h) (fun _ => a.okR hk n) fun z => nomatch z
      | false => rw [if_neg (fun z => nomatch z)]; exact sdf_of fun n => sd_if (c.okB hk h) (fun z => nomatch z) fun _ => b.okR hk n
    | _ => trivial
def SS.raise (C : Addr) : SS Hy := ⟨fun _ W => tRaise C W, fun δ => .ex δ C [], fun _ _ _ _ => sd_raise rfl⟩
def SS.never : SS Hy := ⟨fun _ _ => tNever, fun _ => .no, fun _ _ _ _ => trivial⟩
/-- slot i a list of one's own -/
def ow : List S → Nat → M (List D)
  | .own xs :: _, 0 => .ok xs
  | _ :: l, i + 1 => ow l i
  | _, _ => .no
theorem ow_s {l : List S} {s : S} {i : Nat} : ow (s :: l) (i + 1) = ow l i := by cases s <;> rfl
theorem ow_ok : ∀ {δ : List S} {i : Nat} {xs : List D}, ow δ i = .ok xs → δ[i]? = some (.own xs)
  | [], i, s, h => by cases i <;> cases h
  | a :: l, 0, s, h => by cases a <;> cases h; rfl
  | a :: l, i + 1, s, h => by rw [ow_s] at h; simpa using ow_ok h
/-- xs.append(e) -/
def SS.app (i : Nat) (e : SE Hy) : SS Hy where
  t K W := tDrop (tBM K "list" rAppend (tVar i) (tCons (e.t K W) tNil))
  f δ := Fl.exn (ow δ i) fun xs => Fl.exn (e.fd δ) fun x => if xs.length < sizeLine then .nx (δ.set i (.own (xs ++ [x]))) else .no
  ok K hk W δ := by
    cases h : ow δ i with
    | ok xs =>
      rw [Fl.ok_exn]
      cases h2 : e.fd δ with
      | ok x =>
        rw [Fl.ok_exn]
        by_cases z : xs.length < sizeLine
        · rw [if_pos z]; exact sd_append (ow_ok h) (e.okD hk h2) z rfl
        · rw [if_neg z]; trivial
      | _ => trivial
    | _ => trivial
/-- from here on the list in slot i is data -/
def SS.frz (i : Nat) (a : SS Hy) : SS Hy where
  t K W := a.t K W
  f δ := match ow δ i with | .ok xs => a.f (δ.set i (.d (.lst xs))) | _ => a.f δ
  ok K hk W δ := by
    cases h : ow δ i with
    | ok xs => exact sdf_of fun n => sd_frzAt (ow_ok h) (a.okR hk n)
    | _ => exact a.ok K hk W δ
/-- slots forgotten -/
def wpF : List Nat → List S → List S
  | [], δ => δ
  | i :: r, δ => wpF r (δ.set i .un)
theorem weak_set {i : Nat} : weak δ (δ.set i .un) := fun j s h => by
  by_cases z : i = j
  · subst z
    have hl : i < δ.length := by have := (List.getElem?_eq_some_iff.mp h).1; rwa [List.length_set] at this
    rw [List.getElem?_set_self hl] at h
    exact .inr ⟨(Option.some.inj h).symm, δ[i], List.getElem?_eq_getElem hl⟩
  · rw [List.getElem?_set_ne z] at h; exact .inl h
theorem weak_trans {a b c : List S} (h : weak a b) (k : weak b c) : weak a c := fun i s e => by
  rcases k i s e with q | ⟨rfl, t, q⟩
  · exact h i s q
  · rcases h i t q with r | ⟨_, u, r⟩
    · exact .inr ⟨rfl, t, r⟩
    · exact .inr ⟨rfl, u, r⟩
theorem weak_wpF : ∀ (vs : List Nat) (δ : List S), weak δ (wpF vs δ)
  | [], _ => weak_refl
  | _ :: r, _ => weak_trans weak_set (weak_wpF r _)
def SS.wipe (vs : List Nat) (a : SS Hy) : SS Hy where
  t K W := a.t K W
  f δ := a.f (wpF vs δ)
  ok K hk W δ := sdf_of fun n => sd_weak (weak_wpF vs δ) (a.okR hk n)
def forF (g : List S → D → Option (List S)) (body : List S → Fl) (vs : List Nat) : List D → List S → Fl
  | [], δ => .nx δ
  | y :: ys, δ => match g δ y with
    | none => .no
    | some δ1 => match body δ1 with
      | .nx δ2 => forF g body vs ys (wpF vs δ2)
      | .ct δ2 => forF g body vs ys (wpF vs δ2)
      | .bk δ2 => .nx δ2
      | r => r
/-- the slots ahead of item i -/
def forI (g : List S → D → Option (List S)) (body : List S → Fl) (vs : List Nat) (ys : List D) (δ : List S) : Nat → List S
  | 0 => δ
  | i + 1 => match ys[i]? with
    | none => []
    | some y => match g (forI g body vs ys δ i) y with
      | none => []
      | some δ1 => match body δ1 with | .nx δ2 => wpF vs δ2 | .ct δ2 => wpF vs δ2 | _ => []
def SS.forS (i : SI Hy) (g : SG Hy) (vs : List Nat) (b : SS Hy) : SS Hy where
  t K W := tFor (i.t K W) (g.t K W) (b.t K W)
  f δ := Fl.exn (i.f δ) fun ys => forF g.f b.f vs ys (wpF vs δ)
  ok K hk W δ := by
    cases h : i.f δ with
    | ok ys =>
      rw [Fl.ok_exn]
      refine sdf_of fun n => ?_
      generalize hr : forF g.f b.f vs ys (wpF vs δ) = r at n
      refine sd_forP (ys := ys) (h := id) (P := fun k => forF g.f b.f vs (ys.drop k) (forI g.f b.f vs ys (wpF vs δ) k) = r) hr (ei_is (i.okI hk h) (List.map_id _).symm) (forI g.f b.f vs ys (wpF vs δ)) (weak_wpF vs δ) (fun k y hy hP => ?_) (fun hP => ?_)
      · have hlt := (List.getElem?_eq_some_iff.mp hy).1
        have hd : ys.drop k = y :: ys.drop (k + 1) := by
          rw [List.drop_eq_getElem_cons hlt, (List.getElem?_eq_some_iff.mp hy).2]
        rw [hd] at hP
        unfold forF at hP
        cases h1 : g.f (forI g.f b.f vs ys (wpF vs δ) k) y with
        | none => rw [h1] at hP; exact (n hP.symm).elim
        | some δ1 =>
          rw [h1] at hP
          simp only at hP
          have hn : b.f δ1 ≠ .no := fun z => n (by rw [← hP, z])
          have hI : ∀ δ2, (b.f δ1 = .nx δ2 ∨ b.f δ1 = .ct δ2) → forI g.f b.f vs ys (wpF vs δ) (k + 1) = wpF vs δ2 := fun δ2 e => by
            conv => lhs; unfold forI
            rw [hy]
            show (match g.f (forI g.f b.f vs ys (wpF vs δ) k) y with | none => [] | some δ1 => match b.f δ1 with | .nx δ2 => wpF vs δ2 | .ct δ2 => wpF vs δ2 | _ => []) = _
            rw [h1]
            rcases e with e | e <;> (show (match b.f δ1 with | .nx δ2 => wpF vs δ2 | .ct δ2 => wpF vs δ2 | _ => []) = _; rw [e])
          refine ⟨δ1, g.okG hk h1, sdr_mono (b.okR hk hn) (fun δ2 e => ?_) (fun s _ e => .inl ?_) (fun δ2 e => ?_) (fun δ2 e => ?_) (fun δ2 c fs e => ?_) (fun s _ e => .inr ?_)⟩
          · refine ⟨?_, by rw [hI δ2 (.inl e)]; exact weak_wpF vs δ2⟩
            rw [hI δ2 (.inl e), ← hP]; show _ = (match b.f δ1 with | .nx δ2 => _ | .ct δ2 => _ | .bk δ2 => _ | r => r); rw [e]
          · rw [← hP]; show (match b.f δ1 with | .nx δ2 => _ | .ct δ2 => _ | .bk δ2 => _ | r => r) = _; rw [e]
          · rw [← hP]; show (match b.f δ1 with | .nx δ2 => _ | .ct δ2 => _ | .bk δ2 => _ | r => r) = _; rw [e]
          · refine ⟨?_, by rw [hI δ2 (.inr e)]; exact weak_wpF vs δ2⟩
            rw [hI δ2 (.inr e), ← hP]; show _ = (match b.f δ1 with | .nx δ2 => _ | .ct δ2 => _ | .bk δ2 => _ | r => r); rw [e]
          · rw [← hP]; show (match b.f δ1 with | .nx δ2 => _ | .ct δ2 => _ | .bk δ2 => _ | r => r) = _; rw [e]
          · rw [← hP]; show (match b.f δ1 with | .nx δ2 => _ | .ct δ2 => _ | .bk δ2 => _ | r => r) = _; rw [e]
      · rw [List.drop_length] at hP; exact hP.symm
    | _ => trivial
/-- what the classes at Cs are caught by -/
def ExmOk (Hy : PySem.W.Frag → Prop) (cv : Value) (Cs : List Addr) : Prop := ∀ K, Hy K → ∀ C ∈ Cs, PySem.W.exmOne K (.ref C) cv = some true
theorem em_nil {cv : Value} : ExmOk Hy cv [] := fun _ _ _ h => nomatch h
theorem em_cons {cv : Value} {C : Addr} {Cs : List Addr} (h : ∀ K, Hy K → PySem.W.exmOne K (.ref C) cv = some true) (r : ExmOk Hy cv Cs) : ExmOk Hy cv (C :: Cs) := fun K hk D hD => by
  rcases List.mem_cons.mp hD with rfl | z
  · exact h K hk
  · exact r K hk D z
def SS.tryK (cv : Value) (Cs : List Addr) (hc : ExmOk Hy cv Cs) (i j : Nat) (b : SS Hy) : SS Hy where
  t K _ := tTryK K cv i j fun W => b.t K W
  f δ := match b.f δ with
    | .ex δ' c fs => if i < δ'.length ∧ j < δ'.length ∧ c ∈ Cs then .nx (((δ'.set i .un).set j (.d (.exc c fs))).set i .un) else .no
    | r => r
  ok K hk W δ := by
    cases h : b.f δ with
    | no => trivial
    | ex δ' c fs =>
      show SDF K W _ δ (if _ then _ else _)
      by_cases z : i < δ'.length ∧ j < δ'.length ∧ c ∈ Cs
      · rw [if_pos z]
        refine sd_try (X1 := fun d a g => Fl.ex δ' c fs = .ex d a g) (fun W' => sdr_mono (b.okR hk (by rw [h]; exact fun z => nomatch z)) (fun _ e => ?_) (fun _ _ e => ?_) (fun _ e => ?_) (fun _ e => ?_) (fun _ _ _ e => ?_) (fun _ _ e => ?_)) (fun d a g e => ?_)
        · rw [h] at e; cases e
        · rw [h] at e; cases e
        · rw [h] at e; cases e
        · rw [h] at e; cases e
        · rw [h] at e; exact e
        · rw [h] at e; cases e
        · cases e; exact ⟨z.1, z.2.1, hc K hk c z.2.2, rfl⟩
      · rw [if_neg z]; trivial
    | _ =>
      refine sd_try (X1 := fun _ _ _ => False) (fun W' => sdr_mono (b.okR hk (by rw [h]; exact fun z => nomatch z)) (fun _ e => ?_) (fun _ _ e => ?_) (fun _ e => ?_) (fun _ e => ?_) (fun _ _ _ e => ?_) (fun _ _ e => ?_)) (fun _ _ _ e => e.elim)
      · rw [h] at e; exact e
      · rw [h] at e; exact .inl e
      · rw [h] at e; exact e
      · rw [h] at e; exact e
      · rw [h] at e; cases e
      · rw [h] at e; exact .inr e
/-- slot i the new object -/
def obj : List S → Nat → M (Option Addr × Addr × List (Str × D))
  | .ob a C fs :: _, 0 => .ok (a, C, fs)
  | _ :: l, i + 1 => obj l i
  | _, _ => .no
theorem obj_s {l : List S} {s : S} {i : Nat} : obj (s :: l) (i + 1) = obj l i := by cases s <;> rfl
theorem obj_ok : ∀ {δ : List S} {i : Nat} {p : Option Addr × Addr × List (Str × D)}, obj δ i = .ok p → δ[i]? = some (.ob p.1 p.2.1 p.2.2)
  | [], i, s, h => by cases i <;> cases h
  | a :: l, 0, s, h => by cases a <;> cases h; rfl
  | a :: l, i + 1, s, h => by rw [obj_s] at h; simpa using obj_ok h
def SS.setF (i : Nat) (f : Str) (Cs : List Addr) (hf : FldOk Hy f Cs) (e : SE Hy) : SS Hy where
  t K W := sFld K (tVar i) (e.t K W) f
  f δ := Fl.exn (obj δ i) fun p => Fl.exn (e.fd δ) fun x => if p.2.1 ∈ Cs ∧ p.2.2.length < 1000 then .nx (δ.set i (.ob p.1 p.2.1 (putD f x p.2.2))) else .no
  ok K hk W δ := by
    cases h : obj δ i with
    | ok p =>
      rw [Fl.ok_exn]
      cases h2 : e.fd δ with
      | ok x =>
        rw [Fl.ok_exn]
        by_cases z : p.2.1 ∈ Cs ∧ p.2.2.length < 1000
        · rw [if_pos z]; obtain ⟨c, n⟩ := hf K hk _ z.1; exact sd_fld (obj_ok h) (e.okD hk h2) c n z.2 rfl
        · rw [if_neg z]; trivial
      | _ => trivial
    | _ => trivial
def runF (b : SS Hy) (n np : Nat) (xs : List D) : M S := if xs.length = np then (match b.f (slots n xs) with | .nx _ => .ok (.d .non) | .rt s => .ok s | .ex _ c fs => .ex c fs | _ => .no) else .no
def runI (b : SS Hy) (n np : Nat) (C x : Addr) (xs : List D) : M (List (Str × D)) := if xs.length + 1 = np then (match b.f (slotsI n x C xs) with
    | .nx (.ob (some x') C' fs :: _) => if x' = x ∧ C' = C then .ok fs else .no
    | .ex _ c fs => .ex c fs | _ => .no) else .no
theorem hl_run {b : SS Hy} {n np : Nat} : ∀ xs out, RF (runF b n np) xs out → xs.length = np := fun xs out h => by
  by_cases e : xs.length = np
  · exact e
  · rcases h with ⟨s, h, _⟩ | ⟨c, cf, h, _⟩ <;> (unfold runF at h; rw [if_neg e] at h; cases h)
theorem hl_runI {b : SS Hy} {n np : Nat} {C : Addr} : ∀ xs out, RI C (runI b n np C) xs out → xs.length + 1 = np := fun xs out h => by
  by_cases e : xs.length + 1 = np
  · exact e
  · rcases h with ⟨s, h, _⟩ | ⟨c, cf, h, _⟩ <;> (have h := h 0; unfold runI at h; rw [if_neg e] at h; cases h)
theorem sd_run {b : SS Hy} {n np : Nat} {E : WX} {out : Out} (hk : Hy K) (h : RF (runF b n np) xs out) : SDef K E (b.t K E) (slots n xs) out := by
  have key : ∀ m : M S, runF b n np xs = m → m ≠ .no → ∃ r, b.f (slots n xs) = r ∧ r ≠ .no ∧ (match r with | .nx _ => M.ok (.d .non) | .rt s => .ok s | .ex _ c fs => .ex c fs | _ => .no) = m := fun m e ne => by
    unfold runF at e
    split at e
    · refine ⟨_, rfl, fun z => ?_, e⟩
      rw [z] at e; exact ne e.symm
    · exact (ne e.symm).elim
  unfold SDef
  rcases h with ⟨s, h, rfl⟩ | ⟨c, cf, h, rfl⟩
  · obtain ⟨r, h1, h2, h3⟩ := key _ h (fun z => nomatch z)
    refine sdr_mono (b.okR hk (by rw [h1]; exact h2)) (fun δ' e => ?_) (fun s _ e => ?_) (fun δ' e => ?_) (fun δ' e => ?_) (fun δ' c fs e => ?_) (fun s _ e => ?_) <;> (rw [h1] at e; subst e)
    · cases h3; rfl
    · cases h3; exact .inl rfl
    · cases h3
    · cases h3
    · cases h3
    · cases h3
  · obtain ⟨r, h1, h2, h3⟩ := key _ h (fun z => nomatch z)
    refine sdr_mono (b.okR hk (by rw [h1]; exact h2)) (fun δ' e => ?_) (fun s _ e => ?_) (fun δ' e => ?_) (fun δ' e => ?_) (fun δ' c fs e => ?_) (fun s _ e => ?_) <;> (rw [h1] at e; subst e)
    · cases h3
    · cases h3
    · cases h3
    · cases h3
    · cases h3; rfl
    · cases h3
theorem sd_runI {b : SS Hy} {n np : Nat} {E : WX} {out : Out} {x : Addr} (hk : Hy K) (h : RI C (runI b n np C) xs out) : SDefI K E x C (b.t K E) (slotsI n x C xs) out := by
  unfold SDefI
  rcases h with ⟨fs, h, rfl⟩ | ⟨c, cf, h, rfl⟩
  · replace h := h x
    unfold runI at h
    split at h
    · have hn : b.f (slotsI n x C xs) ≠ .no := fun z => by rw [z] at h; cases h
      refine sdr_mono (b.okR hk hn) (fun δ' e => ?_) (fun s _ e => ?_) (fun δ' e => ?_) (fun δ' e => ?_) (fun δ' c fs e => ?_) (fun s _ e => ?_) <;> rw [e] at h
      · cases δ' with
        | nil => cases h
        | cons s δ' =>
          cases s with
          | ob x' C' fs' =>
            cases x' with
            | none => cases h
            | some x' =>
              simp only at h
              split at h
              · rename_i q; obtain ⟨rfl, rfl⟩ := q; cases h; exact ⟨_, rfl, rfl⟩
              · cases h
          | _ => cases h
      · cases h
      · cases h
      · cases h
      · cases h
      · cases h
    · cases h
  · replace h := h x
    unfold runI at h
    split at h
    · have hn : b.f (slotsI n x C xs) ≠ .no := fun z => by rw [z] at h; cases h
      refine sdr_mono (b.okR hk hn) (fun δ' e => ?_) (fun s _ e => ?_) (fun δ' e => ?_) (fun δ' e => ?_) (fun δ' c fs e => ?_) (fun s _ e => ?_) <;> rw [e] at h
      · cases δ' with
        | nil => cases h
        | cons s δ' =>
          cases s with
          | ob x' C' fs' =>
            cases x' with
            | none => cases h
            | some x' =>
              simp only at h
              split at h <;> cases h
          | _ => cases h
      · cases h
      · cases h
      · cases h
      · cases h; rfl
      · cases h
    · cases h
end
end Far
namespace Far
open PySem L2
variable {Hy : PySem.W.Frag → Prop}
section
open Classical
noncomputable def addF : D → D → Option S
  | .int i, .int j => some (.d (.int (i + j)))
  | .str a, .str b => if a.length + b.length ≤ sizeLine then some (.d (.str (a ++ b))) else none
  | .lst xs, .lst ys => if xs.length + ys.length ≤ sizeLine then some (.own (xs ++ ys)) else none
  | .tup xs, .tup ys => if xs.length + ys.length ≤ sizeLine then some (.d (.tup (xs ++ ys))) else none
  | _, _ => none
noncomputable def oAdd : O2 where
  r K := rAddU K
  f := addF
  ok K x y s h := by
    unfold addF at h
    split at h
    · cases h; exact add_int
    · split at h
      · cases h; exact add_str (by assumption)
      · cases h
    · split at h
      · cases h; exact add_lst (by assumption)
      · cases h
    · split at h
      · cases h; exact add_tup (by assumption)
      · cases h
    · cases h
def subF : D → D → Option S
  | .int i, .int j => some (.d (.int (i - j)))
  | _, _ => none
def oSub : O2 where
  r K := rI0 fun i j => .int (i - j)
  f := subF
  ok K x y s h := by
    unfold subF at h
    split at h
    · cases h; exact sub_int
    · cases h
noncomputable def mulF : D → D → Option S
  | .int i, .int j => if CMul i j ∨ CMulW i j then some (.d (.int (i * j))) else none
  | .lst xs, .int k => if -(2 ^ 63) ≤ k ∧ k < 2 ^ 63 ∧ xs.length * k.toNat ≤ sizeLine then some (.own (List.replicate k.toNat xs).flatten) else none
  | .tup xs, .int k => if xs ≠ [] ∧ 1 ≤ k ∧ xs.length * k.toNat ≤ 1000000 ∧ k ≤ 1000000 then some (.d (.tup (List.replicate k.toNat xs).flatten)) else none
  | _, _ => none
noncomputable def oMul : O2 where
  r K := rMulU K
  f := mulF
  ok K x y s h := by
    unfold mulF at h
    split at h
    · split at h
      · rename_i q
        cases h
        rcases q with q | q
        · exact mul_int q
        · exact mul_wide q
      · cases h
    · split at h
      · rename_i q; cases h; exact mul_lst q.1 q.2.1 q.2.2
      · cases h
    · split at h
      · rename_i k q
        cases h
        by_cases e : k = 1
        · subst e
          have z : ∀ xs : List D, (List.replicate (1 : Int).toNat xs).flatten = xs := fun xs => by show (List.replicate 1 xs).flatten = _; simp
          rw [z]; exact mul_tup1
        · exact mul_tup q.1 (by omega) q.2.2.1 q.2.2.2
      · cases h
    · cases h
noncomputable def divF : D → D → Option S
  | .int i, .int j => if CDivW i j then some (.d (.int (i / j))) else none
  | _, _ => none
noncomputable def oDiv : O2 where
  r K := rI CDivW fun i j => .int (i / j)
  f := divF
  ok K x y s h := by
    unfold divF at h
    split at h
    · split at h
      · cases h; exact fdiv_int (by assumption)
      · cases h
    · cases h
def modF : D → D → Option S
  | .int i, .int j => if 0 < j then some (.d (.int (i % j))) else none
  | _, _ => none
def oMod : O2 where
  r K := rI (fun _ j => 0 < j) fun i j => .int (i % j)
  f := modF
  ok K x y s h := by
    unfold modF at h
    split at h
    · split at h
      · cases h; exact mod_int (by assumption)
      · cases h
    · cases h
noncomputable def powF : D → D → Option S
  | .int i, .int j => if CPow i j then some (.d (.int (i ^ j.toNat))) else none
  | _, _ => none
noncomputable def oPow : O2 where
  r K := rI CPow fun i j => .int (i ^ j.toNat)
  f := powF
  ok K x y s h := by
    unfold powF at h
    split at h
    · split at h
      · cases h; exact pow_int (by assumption)
      · cases h
    · cases h
def ltF : D → D → Option S
  | .int i, .int j => some (.d (.bl (decide (i < j)))) | _, _ => none
def leF : D → D → Option S
  | .int i, .int j => some (.d (.bl (decide (i ≤ j)))) | _, _ => none
def gtF : D → D → Option S
  | .int i, .int j => some (.d (.bl (decide (j < i)))) | _, _ => none
def oLt : O2 := ⟨fun K => rI0 fun i j => .bl (decide (i < j)), ltF, fun K x y s h => by
  unfold ltF at h; split at h
  · cases h; exact lt_int
  · cases h⟩
def oLe : O2 := ⟨fun K => rI0 fun i j => .bl (decide (i ≤ j)), leF, fun K x y s h => by
  unfold leF at h; split at h
  · cases h; exact le_int
  · cases h⟩
def oGt : O2 := ⟨fun K => rI0 fun i j => .bl (decide (j < i)), gtF, fun K x y s h => by
  unfold gtF at h; split at h
  · cases h; exact gt_int
  · cases h⟩
/-- two that can be compared -/
def cmpD (x y : D) : Bool := pur x && pur y && decide ((pd x).depth ≤ 64) && decide ((pd y).depth ≤ 64)
def eqB : D → D → Option Bool
  | .int i, .int j => some (decide (i = j))
  | .str i, .str j => some (decide (i = j))
  | .bl i, .bl j => some (decide (i = j))
  | .int _, .non => some false
  | .non, .int _ => some false
  | .non, .non => some true
  | .scr xs, .lst [] => if xs.all (fun x => match x with | .int _ => true | _ => false) = true then some xs.isEmpty else none
  | x, y => if cmpD x y = true then some (eqD x y) else none
theorem all_ints : ∀ {xs : List D}, xs.all (fun x => match x with | .int _ => true | _ => false) = true → ∃ ns : List Int, xs = ns.map .int
  | [], _ => ⟨[], rfl⟩
  | x :: xs, h => by
    rw [List.all_cons, Bool.and_eq_true] at h
    obtain ⟨ns, rfl⟩ := all_ints h.2
    cases x with
    | int i => exact ⟨i :: ns, rfl⟩
    | _ => exact (nomatch h.1)
def eqF2 (x y : D) : Option S := match x, y with
  | .scr _, .lst [] => none
  | x, y => (eqB x y).map fun b => .d (.bl b)
def neF2 (x y : D) : Option S := (eqB x y).map fun b => .d (.bl !b)
theorem cmpD_to {x y : D} (h : cmpD x y = true) : pur x = true ∧ pur y = true ∧ (pd x).depth ≤ 64 ∧ (pd y).depth ≤ 64 := by
  unfold cmpD at h
  simp only [Bool.and_eq_true, decide_eq_true_eq] at h
  exact ⟨h.1.1.1, h.1.1.2, h.1.2, h.2⟩
def oEq : O2 where
  r K := rEqU K
  f := eqF2
  ok K x y s h := by
    unfold eqF2 at h
    split at h
    · cases h
    · unfold eqB at h
      split at h
      · cases h; exact eq_int
      · cases h; exact eq_str
      · cases h; exact eq_bl
      · cases h; exact eq_int_non
      · cases h; exact eq_non_int
      · cases h; exact eq_non
      · rename_i q; exact (q _ rfl rfl).elim
      · split at h
        · rename_i q
          obtain ⟨q1, q2, q3, q4⟩ := cmpD_to q
          cases h; exact eq_D q1 q2 q3 q4
        · cases h
def oNe : O2 where
  r K := rNeU K
  f := neF2
  ok K x y s h := by
    unfold neF2 eqB at h
    split at h
    · cases h; exact ne_int
    · cases h; exact ne_str
    · cases h; exact ne_bl
    · cases h; exact ne_int_non
    · cases h; exact ne_non_int
    · cases h; exact ne_non
    · split at h
      · rename_i q
        obtain ⟨ns, rfl⟩ := all_ints q
        cases h
        have e : (ns.map D.int).isEmpty = ns.isEmpty := by cases ns <;> rfl
        rw [e]; exact ne_scr_nil
      · cases h
    · split at h
      · rename_i q
        obtain ⟨q1, q2, q3, q4⟩ := cmpD_to q
        cases h; exact ne_D q1 q2 q3 q4
      · cases h
def isNF (x y : D) : Option S := match y with | .non => some (.d (.bl (isNon x))) | _ => none
def notNF (x y : D) : Option S := match y with | .non => some (.d (.bl (!isNon x))) | _ => none
def oIsN : O2 := ⟨fun K => rIsN, isNF, fun K x y s h => by
  unfold isNF at h; split at h
  · cases h; exact is_non
  · cases h⟩
def oNotN : O2 := ⟨fun K => rNotN, notNF, fun K x y s h => by
  unfold notNF at h; split at h
  · cases h; exact not_non
  · cases h⟩
/-- xs[i] -/
def ixF : D → D → Option S
  | .lst xs, .int i => (L2.atI xs i).map .d
  | .tup xs, .int i => (L2.atI xs i).map .d
  | .scr xs, .int i => (L2.atI xs i).map .d
  | .str z, .int i => if z.length ≤ sizeLine then (L2.atI z.cps.toList i).map fun c => .d (.str ⟨#[c]⟩) else none
  | _, _ => none
def oIx : O2 where
  r K := rIx K
  f := ixF
  ok K x y s h := by
    unfold ixF at h
    split at h
    · obtain ⟨w, e, rfl⟩ := Option.map_eq_some_iff.mp h; exact ix_lst e
    · obtain ⟨w, e, rfl⟩ := Option.map_eq_some_iff.mp h; exact ix_tup e
    · obtain ⟨w, e, rfl⟩ := Option.map_eq_some_iff.mp h; exact ix_scr e
    · split at h
      · obtain ⟨w, e, rfl⟩ := Option.map_eq_some_iff.mp h; exact ix_str (by assumption) e
      · cases h
    · cases h
def inF (x y : D) : Option Bool := match y with
  | .lst ys => if flatD x = true ∧ ys.all flatD = true then some (ys.any fun y => eqF y x) else none
  | .tup ys => if flatD x = true ∧ ys.all flatD = true then some (ys.any fun y => eqF y x) else none
  | _ => none
def negF : D → Option S
  | .int i => some (.d (.int (-i))) | _ => none
def oNeg : O1 := ⟨fun K => rU fun i => .int (-i), negF, fun K x s h => by
  unfold negF at h; split at h
  · cases h; exact neg_int
  · cases h⟩
def lenF : List D → Option S
  | [.lst xs] => some (.d (.int xs.length)) | [.tup xs] => some (.d (.int xs.length)) | [.scr xs] => some (.d (.int xs.length))
  | [.str z] => if z.length ≤ sizeLine then some (.d (.int z.length)) else none
  | _ => none
def bLen : OB Hy where
  r K := rLenU K
  f := lenF
  ok K hk xs s h := by
    unfold lenF at h
    split at h
    · cases h; exact len_lst
    · cases h; exact len_tup
    · cases h; exact len_scr
    · split at h
      · cases h; exact len_str (by assumption)
      · cases h
    · cases h
def min2F : List D → Option S
  | [.int i, .int j] => some (.d (.int (min i j))) | _ => none
def bMin2 : OB Hy := ⟨fun _ => rMn2, min2F, fun K hk xs s h => by
  unfold min2F at h; split at h
  · cases h; exact min2
  · cases h⟩
def bools : List D → Option (List Bool)
  | [] => some [] | .bl b :: r => (bools r).map (b :: ·) | _ => none
theorem bools_to : ∀ {xs : List D} {bs : List Bool}, bools xs = some bs → xs = bs.map .bl
  | [], bs, h => by cases h; rfl
  | x :: r, bs, h => by
    cases x with
    | bl b =>
      unfold bools at h
      obtain ⟨cs, e, rfl⟩ := Option.map_eq_some_iff.mp h
      rw [bools_to e]; rfl
    | _ => cases h
theorem bools_map {α : Type} (f : α → Bool) : ∀ l : List α, bools (l.map fun x => D.bl (f x)) = some (l.map f)
  | [] => rfl
  | x :: r => by
    show (bools (r.map fun x => D.bl (f x))).map (f x :: ·) = _
    rw [bools_map f r]; rfl
def allF : List D → Option S
  | [.lst xs] => (bools xs).map fun bs => .d (.bl (bs.all id)) | _ => none
def bAll : OB Hy := ⟨fun K => rAll K, allF, fun K hk xs s h => by
  unfold allF at h; split at h
  · obtain ⟨bs, e, rfl⟩ := Option.map_eq_some_iff.mp h
    rw [bools_to e]; exact all_bls
  · cases h⟩
/-- what is known of the classes: own classes told as instances, as exceptions; class in class; class in a type; type in a class -/
structure Tab where
  ins : List Addr
  exc : List Addr
  cc : List (Addr × Addr × Bool)
  ct : List (Addr × String × Bool)
  tc : List (String × Addr × Bool)
def Tab.Ok (Hy : PySem.W.Frag → Prop) (T : Tab) : Prop := ∀ K, Hy K → (∀ C ∈ T.ins, InsC K C) ∧ (∀ C ∈ T.exc, ExcC K C) ∧ (∀ p ∈ T.cc, PySem.W.kitOne K (.ref p.1) (.ref p.2.1) = some p.2.2) ∧
  (∀ p ∈ T.ct, PySem.W.kitOne K (.ref p.1) (.type p.2.1) = some p.2.2) ∧ ∀ p ∈ T.tc, PySem.W.kitOne K (.type p.1) (.ref p.2.1) = some p.2.2
def find2 {α β : Type} [DecidableEq α] [DecidableEq β] : List (α × β × Bool) → α → β → Option Bool
  | [], _, _ => none
  | p :: r, a, b => if p.1 = a ∧ p.2.1 = b then some p.2.2 else find2 r a b
theorem find2_mem {α β : Type} [DecidableEq α] [DecidableEq β] : ∀ {l : List (α × β × Bool)} {a : α} {b : β} {k : Bool}, find2 l a b = some k → (a, b, k) ∈ l
  | [], _, _, _, h => nomatch h
  | p :: r, a, b, k, h => by
    unfold find2 at h
    split at h
    · rename_i q
      obtain ⟨p1, p2, p3⟩ := p
      obtain ⟨q1, q2⟩ := q
      cases h
      dsimp only at q1 q2
      subst q1 q2
      exact List.mem_cons_self ..
    · exact List.mem_cons_of_mem _ (find2_mem h)
def tyOf (T : Tab) : D → Option (Addr ⊕ String)
  | .ins C _ => if C ∈ T.ins then some (.inl C) else none
  | .exc C [] => if C ∈ T.exc then some (.inl C) else none
  | x => if known x = true then some (.inr (tyN x)) else none
def oneI (T : Tab) (t : Addr ⊕ String) : D → Option Bool
  | .cls A => match t with | .inl C => find2 T.cc C A | .inr n => find2 T.tc n A
  | .ty m => match t with | .inl C => find2 T.ct C m | .inr n => kitB n m
  | _ => none
def isCls : D → Bool | .ty _ => true | .cls _ => true | _ => false
theorem cls_all : ∀ {cs : List D}, cs.all isCls = true → ∃ us, cs.mapM clsD = some us
  | [], _ => ⟨[], rfl⟩
  | c :: r, h => by
    rw [List.all_cons, Bool.and_eq_true] at h
    obtain ⟨us, e⟩ := cls_all h.2
    cases c with
    | ty n => exact ⟨.type n :: us, by rw [List.mapM_cons, e]; rfl⟩
    | cls n => exact ⟨.ref n :: us, by rw [List.mapM_cons, e]; rfl⟩
    | _ => exact (nomatch h.1)
def anyI (T : Tab) (t : Addr ⊕ String) : List D → Option Bool
  | [] => some false
  | c :: r => match oneI T t c with | some true => if r.all isCls = true then some true else none | some false => anyI T t r | none => none
def isiF (T : Tab) : List D → Option S
  | [x, .tup cs] => (tyOf T x).bind fun t => (anyI T t cs).map fun b => .d (.bl b)
  | [x, c] => (tyOf T x).bind fun t => (oneI T t c).map fun b => .d (.bl b)
  | _ => none
def valOf : Addr ⊕ String → Value | .inl C => .ref C | .inr n => .type n
theorem tyOf_kin {K : PySem.W.Frag} {T : Tab} (hT : T.Ok Hy) (hk : Hy K) {x : D} {t : Addr ⊕ String} (h : tyOf T x = some t) : Kin K x (valOf t) := by
  obtain ⟨h1, h2, _⟩ := hT K hk
  unfold tyOf at h
  split at h
  · split at h
    · cases h; exact .ins (h1 _ (by assumption))
    · cases h
  · split at h
    · cases h; exact .exc (h2 _ (by assumption))
    · cases h
  · split at h
    · cases h; exact .ty (by assumption)
    · cases h
theorem oneI_kit {K : PySem.W.Frag} {T : Tab} (hT : T.Ok Hy) (hk : Hy K) {t : Addr ⊕ String} {c : D} {b : Bool} (h : oneI T t c = some b) : ∃ cv, clsD c = some cv ∧ PySem.W.kitOne K (valOf t) cv = some b := by
  obtain ⟨_, _, h3, h4, h5⟩ := hT K hk
  unfold oneI at h
  split at h
  · refine ⟨_, rfl, ?_⟩
    split at h
    · exact h3 _ (find2_mem h)
    · exact h5 _ (find2_mem h)
  · refine ⟨_, rfl, ?_⟩
    split at h
    · exact h4 _ (find2_mem h)
    · exact kit_ty h
  · cases h
theorem anyI_kit {K : PySem.W.Frag} {T : Tab} (hT : T.Ok Hy) (hk : Hy K) {t : Addr ⊕ String} : ∀ {cs : List D} {b : Bool}, anyI T t cs = some b → ∃ us, cs.mapM clsD = some us ∧ PySem.W.kitAny K (valOf t) us = some b
  | [], b, h => by cases h; exact ⟨[], rfl, kitAny_nil⟩
  | c :: r, b, h => by
    unfold anyI at h
    cases e : oneI T t c with
    | none => rw [e] at h; cases h
    | some k =>
      obtain ⟨cv, e1, e2⟩ := oneI_kit hT hk e
      rw [e] at h
      cases k with
      | true =>
        simp only at h
        split at h
        · cases h
          obtain ⟨us, e3⟩ := cls_all (by assumption)
          exact ⟨cv :: us, by rw [List.mapM_cons, e1, e3]; rfl, kitAny_t e2⟩
        · cases h
      | false =>
        obtain ⟨us, e3, e4⟩ := anyI_kit hT hk h
        exact ⟨cv :: us, by rw [List.mapM_cons, e1, e3]; rfl, kitAny_f e2 e4⟩
end
end Far
namespace Far
open PySem L2
variable {Hy : PySem.W.Frag → Prop}
section
theorem isiF_ok {K : PySem.W.Frag} {T : Tab} (hT : T.Ok Hy) (hk : Hy K) {xs : List D} {s : S} (h : isiF T xs = some s) : RVN K (rIsU K) xs s := by
  unfold isiF at h
  split at h
  · rename_i x cs
    obtain ⟨t, e, h⟩ := Option.bind_eq_some_iff.mp h
    obtain ⟨b, e2, rfl⟩ := Option.map_eq_some_iff.mp h
    obtain ⟨us, e3, e4⟩ := anyI_kit hT hk e2
    exact is_anyT (tyOf_kin hT hk e) e3 e4
  · rename_i x c _
    obtain ⟨t, e, h⟩ := Option.bind_eq_some_iff.mp h
    obtain ⟨b, e2, rfl⟩ := Option.map_eq_some_iff.mp h
    obtain ⟨cv, e3, e4⟩ := oneI_kit hT hk e2
    exact is_any (tyOf_kin hT hk e) e3 e4
  · cases h
def bIsi (T : Tab) (hT : T.Ok Hy) : OB Hy := ⟨fun K => rIsU K, isiF T, fun _ hk _ _ h => isiF_ok hT hk h⟩
theorem inV_F {x : D} {xs : List D} : inV (vOf x) (xs.map vOf) = xs.any fun y => eqF y x := by
  unfold inV eqF; rw [List.any_map]; rfl
theorem in_seq {K : PySem.W.Frag} {x y : D} {xs : List D} (neg : Bool) (hy : y = .lst xs ∨ y = .tup xs) (fx : flatD x = true) (fxs : xs.all flatD = true) : RV2 K (rIn K neg) x y (.d (.bl (if neg then !(xs.any fun y => eqF y x) else xs.any fun y => eqF y x))) := by
  intro He Ge H G σ δ v u ok rv ru Q q
  obtain ⟨e1, f1⟩ := flat_rp fx rv
  have main : ∀ p us, (SqL K H p us ∨ SqT K H p us) → RpL K G xs us → rIn K neg v (.ref p) H Q := fun p us hs r => by
    obtain ⟨e2, f2⟩ := flat_rpl fxs r
    refine ⟨p, us, rfl, hs, f1, f2, ?_⟩
    rw [e1, e2, inV_F]
    exact q _ _ (done ok .bl)
  rcases hy with rfl | rfl
  · cases ru with | lst h r => exact main _ _ (.inl (SqL.of (ok.gh _ _ h))) r
  · cases ru with | tup h r => exact main _ _ (.inr (ok.gh.t h.t)) r
def inS (x y : D) : Option Bool := match x, y with
  | .str i, .str j => some (!(Builtin.Str.occurrences j i 0 j.length 1).isEmpty)
  | x, y => inF x y
def oIn : O2 := ⟨fun K => rInU K, fun x y => (inS x y).map fun b => .d (.bl b), fun K x y s h => by
  obtain ⟨b, e, rfl⟩ := Option.map_eq_some_iff.mp h
  unfold inS at e
  split at e
  · cases e
    exact .inr (fun He Ge H G σ δ v u ok rv ru Q q => by cases rv; cases ru; exact ⟨_, _, rfl, rfl, q _ _ (done ok .bl)⟩)
  · unfold inF at e
    split at e
    · split at e
      · rename_i q; cases e; exact .inl (in_seq false (.inl rfl) q.1 q.2)
      · cases e
    · split at e
      · rename_i q; cases e; exact .inl (in_seq false (.inr rfl) q.1 q.2)
      · cases e
    · cases e⟩
def oNotIn : O2 := ⟨fun K => rNotInU K, fun x y => (inS x y).map fun b => .d (.bl (!b)), fun K x y s h => by
  obtain ⟨b, e, rfl⟩ := Option.map_eq_some_iff.mp h
  unfold inS at e
  split at e
  · cases e
    exact .inr (fun He Ge H G σ δ v u ok rv ru Q q => by cases rv; cases ru; exact ⟨_, _, rfl, rfl, q _ _ (done ok .bl)⟩)
  · unfold inF at e
    split at e
    · split at e
      · rename_i q; cases e; exact .inl (in_seq true (.inl rfl) q.1 q.2)
      · cases e
    · split at e
      · rename_i q; cases e; exact .inl (in_seq true (.inr rfl) q.1 q.2)
      · cases e
    · cases e⟩
def one : List D → Option D | [y] => some y | _ => none
def SE.dnew : SE Hy := ⟨fun _ _ => tDNewK, fun _ => .ok (.d (.dK [])), fun _ _ _ _ => ev_dnew⟩
def cntF (x : D) (ys : List D) : Option S := match x, ys with
  | .lst xs, [y] => if flatD y = true ∧ xs.all flatD = true then some (.d (.int (xs.countP fun z => eqF z y : Nat))) else none
  | _, _ => none
def SE.cnt (o : SE Hy) (a : SA Hy) : SE Hy where
  t K W := tBM K "list" (rCnt K) (o.t K W) (a.t K W)
  f δ := (o.fd δ).bin fun x => (a.f δ).bin fun ys => .of (cntF x ys)
  ok K hk W δ := by
    cases h : o.fd δ with
    | ok x =>
      cases h2 : a.f δ with
      | ok ys =>
        rw [M.ok_bin, M.ok_bin]
        unfold cntF
        split
        · split
          · rename_i q
            exact ev_cnt (o.okD hk h) (a.okA hk h2) q.1 q.2
          · trivial
        · trivial
      | _ => trivial
    | _ => trivial
def cntTF (x : D) (ys : List D) : Option S := match x, ys with
  | .tup xs, [y] => if flatD y = true ∧ xs.all flatD = true then some (.d (.int (xs.countP fun z => eqF z y : Nat))) else none
  | _, _ => none
def SE.cntT (o : SE Hy) (a : SA Hy) : SE Hy where
  t K W := tBP K (rCntT K) (o.t K W) (a.t K W)
  f δ := (o.fd δ).bin fun x => (a.f δ).bin fun ys => .of (cntTF x ys)
  ok K hk W δ := by
    cases h : o.fd δ with
    | ok x =>
      cases h2 : a.f δ with
      | ok ys =>
        rw [M.ok_bin, M.ok_bin]
        unfold cntTF
        split
        · split
          · rename_i q
            exact ev_cntT (o.okD hk h) (a.okA hk h2) q.1 q.2
          · trivial
        · trivial
      | _ => trivial
    | _ => trivial
def idxF (x : D) (ys : List D) : Option S := match x, ys with
  | .lst xs, [y] => if flatD y = true ∧ xs.all flatD = true then (xs.findIdx? fun z => eqF z y).map fun n => .d (.int (n : Nat)) else none
  | _, _ => none
def SE.idx (o : SE Hy) (a : SA Hy) : SE Hy where
  t K W := tBM K "list" (rIndex K) (o.t K W) (a.t K W)
  f δ := (o.fd δ).bin fun x => (a.f δ).bin fun ys => .of (idxF x ys)
  ok K hk W δ := by
    cases h : o.fd δ with
    | ok x =>
      cases h2 : a.f δ with
      | ok ys =>
        rw [M.ok_bin, M.ok_bin]
        unfold idxF
        split
        · rename_i xs y
          split
          · rename_i q
            cases e : xs.findIdx? fun z => eqF z y with
            | none => trivial
            | some j =>
              obtain ⟨hj, h3, h4⟩ := List.findIdx?_eq_some_iff_getElem.mp e
              exact ev_idx (o.okD hk h) (a.okA hk h2) q.1 q.2 (List.getElem?_eq_getElem hj) h3 fun m z' hm hz => by
                obtain ⟨hl, ez⟩ := List.getElem?_eq_some_iff.mp hz
                have := h4 m hm
                rw [ez] at this
                simpa using this
          · trivial
        · trivial
      | _ => trivial
    | _ => trivial
end
end Far
namespace Far
open PySem L2 PySem.Spec PyProof.Rows
/-- the classes' places, one for each -/
structure Zs where
  f : Nat → Addr
  inj : ∀ i j, f i = f j ↔ i = j
@[simp] theorem Zs.eq_iff (Z : Zs) (i j : Nat) : (Z.f i = Z.f j) = (i = j) := propext (Z.inj i j)
theorem le_sum : ∀ {l : List Nat} {a : Nat}, a ∈ l → a ≤ l.sum
  | x :: r, a, h => by
    rw [List.sum_cons]
    rcases List.mem_cons.mp h with rfl | h
    · omega
    · have := le_sum h; omega
/-- .. those of l first -/
def Zs.of (l : List Addr) (h : l.Nodup) : Zs where
  f i := l.getD i (l.sum + 1 + i)
  inj i j := by
    have mem : ∀ i, i < l.length → l.getD i (l.sum + 1 + i) = l[i]! ∧ l.getD i (l.sum + 1 + i) ∈ l := fun i hi => by
      rw [List.getD_eq_getElem?_getD, List.getElem?_eq_getElem hi]
      exact ⟨by simp [hi], List.getElem_mem hi⟩
    have out : ∀ i, l.length ≤ i → l.getD i (l.sum + 1 + i) = l.sum + 1 + i := fun i hi => by
      rw [List.getD_eq_getElem?_getD, List.getElem?_eq_none hi]; rfl
    constructor
    · intro e
      rcases Nat.lt_or_ge i l.length with hi | hi
      · rcases Nat.lt_or_ge j l.length with hj | hj
        · rw [List.getD_eq_getElem?_getD, List.getD_eq_getElem?_getD, List.getElem?_eq_getElem hi, List.getElem?_eq_getElem hj] at e
          exact (List.getElem_inj h).mp e
        · have h1 := le_sum (mem i hi).2
          rw [e, out j hj] at h1; omega
      · rcases Nat.lt_or_ge j l.length with hj | hj
        · have h1 := le_sum (mem j hj).2
          rw [← e, out i hi] at h1; omega
        · rw [out i hi, out j hj] at e
          exact Nat.add_left_cancel e
    · rintro rfl; rfl
theorem fm_nil {α : Type} {P : α → Prop} : ∀ x ∈ ([] : List α), P x := fun _ h => nomatch h
theorem fm_cons {α : Type} {P : α → Prop} {a : α} {l : List α} (h : P a) (r : ∀ x ∈ l, P x) : ∀ x ∈ a :: l, P x := fun x hx => by
  rcases List.mem_cons.mp hx with rfl | z
  · exact h
  · exact r x z
theorem fnok_no {P : Program} {w : World} {K : PySem.W.Frag} {mg : Str → Option Value} {base : Heap} {CX : CXT} {k : Nat} {f : Addr} {fd : FuncData} {ps : List Str} : FnOk P w K mg base CX k f fd ps (spD K (RF fun _ => .no)) :=
  fnok_none.imp fun vs H Q E ⟨G, xs, out, h1, h2, h3, h4⟩ => by rcases h3 with ⟨_, z, _⟩ | ⟨_, _, z, _⟩ <;> cases z
theorem spD_imp {K : PySem.W.Frag} {R R' : List D → Out → Prop} (h : ∀ xs out, R xs out → R' xs out) : ∀ vs H Q E, spD K R vs H Q E → spD K R' vs H Q E := fun vs H Q E ⟨G, xs, out, h1, h2, h3, h4⟩ => ⟨G, xs, out, h1, h2, h xs out h3, h4⟩
abbrev scrD (ns : List Int) : D := .scr (ns.map .int)
def R_law (xs : List D) (out : Out) : Prop := ∃ ns : List Int, xs = [scrD ns] ∧ ns.length ≤ 63 ∧ out = .ret (.d (.bl true))
theorem law_rf {F : List D → M S} (h : ∀ ns : List Int, ns.length ≤ 63 → F [scrD ns] = .ok (.d (.bl true))) : ∀ xs out, R_law xs out → RF F xs out := by
  rintro _ _ ⟨ns, rfl, hl, rfl⟩
  exact .inl ⟨_, h ns hl, rfl⟩
theorem tab_none {K : PySem.W.Frag} {H G : Hp} (h : tabsK K = []) : TabOk K H G := fun P hP => by rw [h] at hP; cases hP
theorem law_asks {K : PySem.W.Frag} {H : Hp} {a : Addr} {ns : List Int} {Q : VK} {E : XK} (hl : ns.length ≤ 63) (hS : SqL K H a (ns.map V.int)) (ht : TabOk K H H) (q : ∀ H', Q (.bl true) H') : spD K R_law [.ref a] H Q E :=
  ⟨H, [scrD ns], _, ⟨.refl H, ht⟩, .cons (.scr hS (rp_ints (fun i => i) ns)) .nil, ⟨ns, rfl, hl, rfl⟩, fun v s G' H' e _ _ _ _ k => by
    cases e; obtain ⟨v', e, r⟩ := k; cases e; cases r; exact fun _ => q H', fun _ _ _ _ _ _ e => nomatch e⟩
section
variable {Hy : PySem.W.Frag → Prop} {K : PySem.W.Frag} {δ : List S}
end
end Far
namespace Far
open PySem L2
theorem toNat_inj : ∀ {a b : List Char}, a.map Char.toNat = b.map Char.toNat → a = b
  | [], [], _ => rfl
  | [], _ :: _, h => by cases h
  | _ :: _, [], h => by cases h
  | x :: a, y :: b, h => by
    obtain ⟨h1, h2⟩ := List.cons.inj h
    have e : x = y := Char.toNat_inj.mp h1
    rw [e, toNat_inj h2]
theorem ofString_inj {a b : String} : Str.ofString a = Str.ofString b ↔ a = b := by
  constructor
  · intro h
    rw [Str.ofString_eq_toList, Str.ofString_eq_toList] at h
    have h1 := congrArg (fun s : Str => s.cps.toList) h
    exact String.toList_inj.mp (toNat_inj h1)
  · rintro rfl; rfl
@[simp] theorem ofString_eq' (a b : String) : (Str.ofString a = Str.ofString b) = (a = b) := propext ofString_inj
@[simp] theorem ofString_beq (a b : String) : (Str.ofString a == Str.ofString b) = decide (a = b) := by
  rw [Bool.eq_iff_iff]; simp [ofString_inj]
section
variable {Hy : PySem.W.Frag → Prop} {α β : Type} {δ : List S}
@[simp] theorem sM1 {a : α} {f : α → M β} : (M.ok a).bind f = f a := (rfl)
@[simp] theorem sM2 {c : Addr} {fs : List (Str × D)} {f : α → M β} : (M.ex c fs).bind f = .ex c fs := (rfl)
@[simp] theorem sM3 {f : α → M β} : M.no.bind f = .no := (rfl)
@[simp] theorem sM4 {a : α} {f : α → M β} : (M.ok a).bin f = f a := (rfl)
@[simp] theorem sM5 {c : Addr} {fs : List (Str × D)} {f : α → M β} : (M.ex c fs).bin f = .no := (rfl)
@[simp] theorem sM6 {f : α → M β} : M.no.bin f = .no := (rfl)
@[simp] theorem sM7 {a : α} : M.of (some a) = .ok a := (rfl)
@[simp] theorem sM8 : M.of (none : Option α) = .no := (rfl)
@[simp] theorem sF1 {f : List S → Fl} : (Fl.nx δ).next f = f δ := (rfl)
@[simp] theorem sF2 {s : S} {f : List S → Fl} : (Fl.rt s).next f = .rt s := (rfl)
@[simp] theorem sF3 {f : List S → Fl} : (Fl.bk δ).next f = .bk δ := (rfl)
@[simp] theorem sF4 {f : List S → Fl} : (Fl.ct δ).next f = .ct δ := (rfl)
@[simp] theorem sF5 {c : Addr} {fs : List (Str × D)} {f : List S → Fl} : (Fl.ex δ c fs).next f = .ex δ c fs := (rfl)
@[simp] theorem sF6 {f : List S → Fl} : Fl.no.next f = .no := (rfl)
@[simp] theorem sF7 {a : α} {f : α → Fl} : Fl.exp (.ok a) δ f = f a := (rfl)
@[simp] theorem sF8 {c : Addr} {fs : List (Str × D)} {f : α → Fl} : Fl.exp (.ex c fs) δ f = .ex δ c fs := (rfl)
@[simp] theorem sF9 {a : α} {f : α → Fl} : Fl.exn (.ok a) f = f a := (rfl)
@[simp] theorem sD1 {x : D} : toD (.d x) = .ok x := (rfl)
@[simp] theorem sD2 {xs : List D} : toD (.own xs) = .ok (.lst xs) := (rfl)
@[simp] theorem sG1 {x : D} {l : List S} : gt (.d x :: l) 0 = .ok (.d x) := (rfl)
@[simp] theorem sG2 {s : S} {l : List S} {i : Nat} : gt (s :: l) (i + 1) = gt l i := gt_s
@[simp] theorem sO1 {xs : List D} {l : List S} : ow (.own xs :: l) 0 = .ok xs := (rfl)
@[simp] theorem sO2 {s : S} {l : List S} {i : Nat} : ow (s :: l) (i + 1) = ow l i := ow_s
@[simp] theorem sB1 {l : List S} {a : Option Addr} {C : Addr} {fs : List (Str × D)} : obj (.ob a C fs :: l) 0 = .ok (a, C, fs) := (rfl)
@[simp] theorem sB2 {s : S} {l : List S} {i : Nat} : obj (s :: l) (i + 1) = obj l i := obj_s
@[simp] theorem sW1 : wpF [] δ = δ := (rfl)
@[simp] theorem sW2 {i : Nat} {r : List Nat} : wpF (i :: r) δ = wpF r (δ.set i .un) := (rfl)
@[simp] theorem sE1 {b : Bool} : asB (.d (.bl b)) = .ok b := (rfl)
@[simp] theorem sE2 {b : Bool} : asBl (some (.d (.bl b))) = .ok b := (rfl)
@[simp] theorem sE3 {i : Int} : asI (.int i) = .ok (some i) := (rfl)
@[simp] theorem sfd (e : SE Hy) : e.fd δ = (e.f δ).bind toD := (rfl)
def orF (a b : M S) : M S := match a with | .no => b | r => r
@[simp] theorem orF_ok {s : S} {b : M S} : orF (.ok s) b = .ok s := (rfl)
@[simp] theorem orF_ex {c : Addr} {fs : List (Str × D)} {b : M S} : orF (.ex c fs) b = .ex c fs := (rfl)
@[simp] theorem orF_no {b : M S} : orF .no b = b := (rfl)
def seqF (x : D) : M (List D) := match x with | .lst xs => .ok xs | .tup xs => .ok xs | _ => .no
@[simp] theorem seqF_l {xs : List D} : seqF (.lst xs) = .ok xs := (rfl)
@[simp] theorem seqF_t {xs : List D} : seqF (.tup xs) = .ok xs := (rfl)
def tupF (x : D) : M (List D) := match x with | .tup xs => .ok xs | _ => .no
@[simp] theorem tupF_t {xs : List D} : tupF (.tup xs) = .ok xs := (rfl)
def rng1F (xs : List D) : M (List D) := match xs with | [.int n] => .ok (rg 0 n.toNat) | _ => .no
@[simp] theorem rng1F_i {n : Int} : rng1F [.int n] = .ok (rg 0 n.toNat) := (rfl)
def frzF (m : M (List D)) (δ : List S) (i : Nat) (f : List S → Fl) : Fl := match m with | .ok xs => f (δ.set i (.d (.lst xs))) | _ => f δ
@[simp] theorem frzF_ok {xs : List D} {i : Nat} {f : List S → Fl} : frzF (.ok xs) δ i f = f (δ.set i (.d (.lst xs))) := (rfl)
def tryF (Cs : List Addr) (i j : Nat) (r : Fl) : Fl := match r with
    | .ex δ' c fs => if i < δ'.length ∧ j < δ'.length ∧ c ∈ Cs then .nx (((δ'.set i .un).set j (.d (.exc c fs))).set i .un) else .no
    | r => r
@[simp] theorem tryF_ex {Cs : List Addr} {i j : Nat} {c : Addr} {fs : List (Str × D)} : tryF Cs i j (.ex δ c fs) = if i < δ.length ∧ j < δ.length ∧ c ∈ Cs then .nx (((δ.set i .un).set j (.d (.exc c fs))).set i .un) else .no := (rfl)
@[simp] theorem tryF_nx {Cs : List Addr} {i j : Nat} : tryF Cs i j (.nx δ) = .nx δ := (rfl)
@[simp] theorem tryF_rt {Cs : List Addr} {i j : Nat} {s : S} : tryF Cs i j (.rt s) = .rt s := (rfl)
def fin (r : Fl) : M S := match r with | .nx _ => .ok (.d .non) | .rt s => .ok s | .ex _ c fs => .ex c fs | _ => .no
@[simp] theorem fin_nx : fin (.nx δ) = .ok (.d .non) := (rfl)
@[simp] theorem fin_rt {s : S} : fin (.rt s) = .ok s := (rfl)
@[simp] theorem fin_ex {c : Addr} {fs : List (Str × D)} : fin (.ex δ c fs) = .ex c fs := (rfl)
def finI (x C : Addr) (r : Fl) : M (List (Str × D)) := match r with
    | .nx (.ob (some x') C' fs :: _) => if x' = x ∧ C' = C then .ok fs else .no
    | .ex _ c fs => .ex c fs | _ => .no
@[simp] theorem finI_nx {x C : Addr} {fs : List (Str × D)} : finI x C (.nx (.ob (some x) C fs :: δ)) = .ok fs := by unfold finI; simp
@[simp] theorem finI_ex {x C c : Addr} {fs : List (Str × D)} : finI x C (.ex δ c fs) = .ex c fs := (rfl)
@[simp] theorem SE.var_f (i : Nat) : (SE.var i : SE Hy).f δ = gt δ i := (rfl)
@[simp] theorem SE.int_f (i : Int) : (SE.int i : SE Hy).f δ = .ok (.d (.int i)) := (rfl)
@[simp] theorem SE.bl_f (i : Bool) : (SE.bl i : SE Hy).f δ = .ok (.d (.bl i)) := (rfl)
@[simp] theorem SE.str_f (i : Str) : (SE.str i : SE Hy).f δ = .ok (.d (.str i)) := (rfl)
@[simp] theorem SE.non_f  : (SE.non : SE Hy).f δ = .ok (.d .non) := (rfl)
@[simp] theorem SE.ty_f (n : String) : (SE.ty n : SE Hy).f δ = .ok (.d (.ty n)) := (rfl)
@[simp] theorem SE.cls_f (a : Addr) : (SE.cls a : SE Hy).f δ = .ok (.d (.cls a)) := (rfl)
@[simp] theorem SA.nil_f  : (SA.nil : SA Hy).f δ = .ok [] := (rfl)
@[simp] theorem SA.cons_f (e : SE Hy) (r : SA Hy) : (SA.cons e r).f δ = (e.fd δ).bind fun x => (r.f δ).bind fun xs => .ok (x :: xs) := (rfl)
@[simp] theorem SE.op_f (o : O2) (a b : SE Hy) : (SE.op o a b).f δ = (a.fd δ).bind fun x => (b.fd δ).bind fun y => .of (o.f x y) := (rfl)
@[simp] theorem SE.un_f (o : O1) (a : SE Hy) : (SE.un o a).f δ = (a.fd δ).bind fun x => .of (o.f x) := (rfl)
@[simp] theorem SE.cb_f (o : OB Hy) (a : SA Hy) : (SE.cb o a).f δ = (a.f δ).bind fun xs => .of (o.f xs) := (rfl)
@[simp] theorem SE.tup_f (a : SA Hy) : (SE.tup a).f δ = (a.f δ).bind fun xs => if xs.length ≤ sizeLine then .ok (.d (.tup xs)) else .no := (rfl)
@[simp] theorem SE.lst_f (a : SA Hy) : (SE.lst a).f δ = (a.f δ).bind fun xs => if xs.length ≤ sizeLine then .ok (.own xs) else .no := (rfl)
@[simp] theorem SE.call_f (F : List D → M S) (a : SA Hy) : (SE.call F a).f δ = (a.f δ).bind fun xs => (F xs).bin .ok := (rfl)
@[simp] theorem SE.callX_f (F : List D → M S) (a : SA Hy) : (SE.callX F a).f δ = (a.f δ).bind F := (rfl)
@[simp] theorem SE.make_f (C : Addr) (F : Addr → List D → M (List (Str × D))) (a : SA Hy) : (SE.make C F a).f δ = (a.f δ).bind fun xs => (mkR F xs).bin fun fs => .ok (.d (.ins C fs)) := (rfl)
@[simp] theorem SE.makeX_f (C : Addr) (F : Addr → List D → M (List (Str × D))) (a : SA Hy) : (SE.makeX C F a).f δ = (a.f δ).bind fun xs => (mkR F xs).bind fun fs => .ok (.d (.ins C fs)) := (rfl)
@[simp] theorem SE.new0_f (C : Addr) : (SE.new0 C : SE Hy).f δ = .ok (.d (.ins C [])) := (rfl)
@[simp] theorem SE.meth_f (C : Addr) (m : Str) (F : List D → M S) (o : SE Hy) (a : SA Hy) : (SE.meth C m F o a).f δ = (o.fd δ).bind fun x => if ofC C m x = true then (a.f δ).bind fun xs => (F (x :: xs)).bin .ok else .no := (rfl)
@[simp] theorem SE.either_f (a b : SE Hy) : (SE.either a b).f δ = orF (a.f δ) (b.f δ) := (rfl)
@[simp] theorem SE.fld_f (f : Str) (Cs : List Addr) (h : FldOk Hy f Cs) (o : SE Hy) : (SE.fld f Cs h o).f δ = (o.fd δ).bind fun x => (M.of (fldF Cs f x)).bin fun y => .ok (.d y) := (rfl)
@[simp] theorem SE.orE_f (a b : SE Hy) : (SE.orE a b).f δ = (a.fd δ).bin fun x => (M.of (tru x)).bin fun k => if k = true then .ok (.d x) else (b.f δ).bin .ok := (rfl)
@[simp] theorem SE.andE_f (a b : SE Hy) : (SE.andE a b).f δ = (a.fd δ).bin fun x => (M.of (tru x)).bin fun k => if k = true then (b.f δ).bin .ok else .ok (.d x) := (rfl)
@[simp] theorem SE.notE_f (a : SE Hy) : (SE.notE a).f δ = (a.fd δ).bin fun x => (M.of (tru x)).bin fun k => .ok (.d (.bl (!k))) := (rfl)
@[simp] theorem ST.of_f (e : SE Hy) : (ST.of e).f δ = (e.f δ).bin asB := (rfl)
@[simp] theorem ST.tru_f (e : SE Hy) : (ST.tru e).f δ = (e.fd δ).bin fun x => .of (Far.tru x) := (rfl)
@[simp] theorem ST.not_f (c : ST Hy) : (ST.not c).f δ = (c.f δ).bin fun b => .ok (!b) := (rfl)
@[simp] theorem ST.and_f (c e : ST Hy) : (ST.and c e).f δ = (c.f δ).bin fun b => if b = true then (e.f δ).bin .ok else .ok false := (rfl)
@[simp] theorem ST.or_f (c e : ST Hy) : (ST.or c e).f δ = (c.f δ).bin fun b => if b = true then .ok true else (e.f δ).bin .ok := (rfl)
@[simp] theorem ST.yes_f  : (ST.yes : ST Hy).f δ = .ok true := (rfl)
@[simp] theorem SE.chain_f (o p : O2) (a b c : SE Hy) : (SE.chain o p a b c).f δ = (a.fd δ).bin fun x => (b.fd δ).bin fun y => (asBl (o.f x y)).bin fun k => (c.fd δ).bin fun z => (asBl (p.f y z)).bin fun l => .ok (.d (.bl (k && l))) := (rfl)
@[simp] theorem SO.none_f  : (SO.none : SO Hy).f δ = .ok .none := (rfl)
@[simp] theorem SO.some_f (e : SE Hy) : (SO.some e).f δ = (e.fd δ).bin asI := (rfl)
@[simp] theorem SE.sl_f (a : SE Hy) (lo hi : SO Hy) : (SE.sl a lo hi).f δ = (a.fd δ).bin fun x => (lo.f δ).bin fun l => (hi.f δ).bin fun h => cutF x l h := (rfl)
@[simp] theorem SI.seq_f (e : SE Hy) : (SI.seq e).f δ = (e.fd δ).bin seqF := (rfl)
@[simp] theorem SI.tup_f (e : SE Hy) : (SI.tup e).f δ = (e.fd δ).bin tupF := (rfl)
@[simp] theorem SI.rng1_f (a : SA Hy) : (SI.rng1 a).f δ = (a.f δ).bin rng1F := (rfl)
@[simp] theorem SG.name_f (i : Nat) (x : D) : (SG.name i : SG Hy).f δ x = if i < δ.length then some (δ.set i (.d x)) else none := (rfl)
@[simp] theorem SGs.nil_f  : (SGs.nil : SGs Hy).f δ [] = some δ := (rfl)
@[simp] theorem SGs.cons_f (i : Nat) (r : SGs Hy) (x : D) (xs : List D) : (SGs.cons i r).f δ (x :: xs) = if i < δ.length then r.f (δ.set i (.d x)) xs else none := (rfl)
@[simp] theorem SG.seqT_f (n : Nat) (r : SGs Hy) (xs : List D) : (SG.seq n r).f δ (.tup xs) = if r.n = n then r.f δ xs else none := (rfl)
@[simp] theorem SG.seqL_f (n : Nat) (r : SGs Hy) (xs : List D) : (SG.seq n r).f δ (.lst xs) = if r.n = n then r.f δ xs else none := (rfl)
@[simp] theorem SG.seqU_f (n : Nat) (r : SGs Hy) (xs : List D) : (SG.seq n r).f δ (.utp xs) = if r.n = n then r.f δ xs else none := (rfl)
@[simp] theorem SE.cntT_f (o : SE Hy) (a : SA Hy) : (SE.cntT o a).f δ = (o.fd δ).bin fun x => (a.f δ).bin fun ys => .of (cntTF x ys) := (rfl)
@[simp] theorem SE.dnew_f : (SE.dnew : SE Hy).f δ = .ok (.d (.dK [])) := (rfl)
@[simp] theorem SGs.nil_n : (SGs.nil : SGs Hy).n = 0 := (rfl)
@[simp] theorem SGs.cons_n (i : Nat) (r : SGs Hy) : (SGs.cons i r).n = r.n + 1 := (rfl)
@[simp] theorem SGs.nil_ix : (SGs.nil : SGs Hy).ix = [] := (rfl)
@[simp] theorem SGs.cons_ix (i : Nat) (r : SGs Hy) : (SGs.cons i r).ix = i :: r.ix := (rfl)
@[simp] theorem SG.name_ix (i : Nat) : (SG.name i : SG Hy).ix = [i] := (rfl)
@[simp] theorem SG.seq_ix (n : Nat) (r : SGs Hy) : (SG.seq n r).ix = r.ix := (rfl)
@[simp] theorem SE.lc_f (i : SI Hy) (g : SG Hy) (c : ST Hy) (e : SE Hy) (vs : List Nat) : (SE.lc i g c e vs).f δ = (i.f δ).bin fun ys => if g.ix.all (fun i => vs.contains i) = true ∧ ys.length ≤ sizeLine then (lcF (lcS g c e (hide δ vs)) ys).bin fun xs => .ok (.own xs) else .no := (rfl)
@[simp] theorem SS.skip_f  : (SS.skip : SS Hy).f δ = .nx δ := (rfl)
@[simp] theorem SS.brk_f  : (SS.brk : SS Hy).f δ = .bk δ := (rfl)
@[simp] theorem SS.cnt_f  : (SS.cnt : SS Hy).f δ = .ct δ := (rfl)
@[simp] theorem SS.seq_f (a b : SS Hy) : (SS.seq a b).f δ = (a.f δ).next b.f := (rfl)
@[simp] theorem SS.ret_f (e : SE Hy) : (SS.ret e).f δ = Fl.exp (e.f δ) δ retS := (rfl)
@[simp] theorem retS_d {x : D} : retS (.d x) = .rt (.d x) := (rfl)
@[simp] theorem retS_own {x : List D} : retS (.own x) = .rt (.own x) := (rfl)
@[simp] theorem retS_okd {x : List (Key × D)} : retS (.okd x) = .rt (.okd x) := (rfl)
@[simp] theorem retS_ob {q : Option Addr} {C : Addr} {x : List (Str × D)} : retS (.ob q C x) = .rt (.ob q C x) := (rfl)
@[simp] theorem retS_un : retS .un = .rt .un := (rfl)
@[simp] theorem SS.drop_f (e : SE Hy) : (SS.drop e).f δ = Fl.exp (e.f δ) δ fun _ => .nx δ := (rfl)
@[simp] theorem SS.set_f (i : Nat) (e : SE Hy) : (SS.set i e).f δ = Fl.exp (e.f δ) δ fun s => if i < δ.length then .nx (δ.set i s) else .no := (rfl)
@[simp] theorem SS.setD_f (i : Nat) (e : SE Hy) : (SS.setD i e).f δ = Fl.exp (e.fd δ) δ fun x => if i < δ.length then .nx (δ.set i (.d x)) else .no := (rfl)
@[simp] theorem SS.ite_f (c : ST Hy) (a b : SS Hy) : (SS.ite c a b).f δ = Fl.exn (c.f δ) fun k => if k = true then a.f δ else b.f δ := (rfl)
@[simp] theorem SS.raise_f (C : Addr) : (SS.raise C : SS Hy).f δ = .ex δ C [] := (rfl)
@[simp] theorem SS.never_f  : (SS.never : SS Hy).f δ = .no := (rfl)
@[simp] theorem SS.app_f (i : Nat) (e : SE Hy) : (SS.app i e).f δ = Fl.exn (ow δ i) fun xs => Fl.exn (e.fd δ) fun x => if xs.length < sizeLine then .nx (δ.set i (.own (xs ++ [x]))) else .no := (rfl)
@[simp] theorem SS.frz_f (i : Nat) (a : SS Hy) : (SS.frz i a).f δ = frzF (ow δ i) δ i a.f := (rfl)
@[simp] theorem SS.wipe_f (vs : List Nat) (a : SS Hy) : (SS.wipe vs a).f δ = a.f (wpF vs δ) := (rfl)
@[simp] theorem SS.forS_f (i : SI Hy) (g : SG Hy) (vs : List Nat) (b : SS Hy) : (SS.forS i g vs b).f δ = Fl.exn (i.f δ) fun ys => forF g.f b.f vs ys (wpF vs δ) := (rfl)
@[simp] theorem SS.tryK_f (cv : Value) (Cs : List Addr) (hc : ExmOk Hy cv Cs) (i j : Nat) (b : SS Hy) : (SS.tryK cv Cs hc i j b).f δ = tryF Cs i j (b.f δ) := (rfl)
@[simp] theorem SS.setF_f (i : Nat) (f : Str) (Cs : List Addr) (hf : FldOk Hy f Cs) (e : SE Hy) : (SS.setF i f Cs hf e).f δ = Fl.exn (obj δ i) fun p => Fl.exn (e.fd δ) fun x => if p.2.1 ∈ Cs ∧ p.2.2.length < 1000 then .nx (δ.set i (.ob p.1 p.2.1 (putD f x p.2.2))) else .no := (rfl)
@[simp] theorem SE.cnt_f (o : SE Hy) (a : SA Hy) : (SE.cnt o a).f δ = (o.fd δ).bin fun x => (a.f δ).bin fun ys => .of (cntF x ys) := (rfl)
@[simp] theorem SE.idx_f (o : SE Hy) (a : SA Hy) : (SE.idx o a).f δ = (o.fd δ).bin fun x => (a.f δ).bin fun ys => .of (idxF x ys) := (rfl)
@[simp] theorem fldF_1 {Cs : List Addr} {f : Str} {C : Addr} {fs : List (Str × D)} : fldF Cs f (.ins C fs) = if C ∈ Cs then fs.lookup f else none := (rfl)
@[simp] theorem ofC_1 {C C' : Addr} {m : Str} {fs : List (Str × D)} : ofC C m (.ins C' fs) = (decide (C' = C) && (fs.lookup m).isNone) := (rfl)
end
end Far
namespace Far
open PySem L2
section
variable {Hy : PySem.W.Frag → Prop} {i j : Int} {x y : D} {xs ys : List D} {a b : Bool}
@[simp] theorem oAdd_f : oAdd.f = addF := (rfl)
@[simp] theorem oSub_f : oSub.f = subF := (rfl)
@[simp] theorem oMul_f : oMul.f = mulF := (rfl)
@[simp] theorem oDiv_f : oDiv.f = divF := (rfl)
@[simp] theorem oMod_f : oMod.f = modF := (rfl)
@[simp] theorem oPow_f : oPow.f = powF := (rfl)
@[simp] theorem oLt_f : oLt.f = ltF := (rfl)
@[simp] theorem oLe_f : oLe.f = leF := (rfl)
@[simp] theorem oGt_f : oGt.f = gtF := (rfl)
@[simp] theorem oEq_f : oEq.f = eqF2 := (rfl)
@[simp] theorem oNe_f : oNe.f = neF2 := (rfl)
@[simp] theorem oIsN_f : oIsN.f = isNF := (rfl)
@[simp] theorem oNotN_f : oNotN.f = notNF := (rfl)
@[simp] theorem oIx_f : oIx.f = ixF := (rfl)
@[simp] theorem oIn_f : oIn.f x y = (inS x y).map fun b => .d (.bl b) := (rfl)
@[simp] theorem oNotIn_f : oNotIn.f x y = (inS x y).map fun b => .d (.bl !b) := (rfl)
@[simp] theorem oNeg_f : oNeg.f = negF := (rfl)
@[simp] theorem bLen_f : (bLen : OB Hy).f = lenF := (rfl)
@[simp] theorem bMin2_f : (bMin2 : OB Hy).f = min2F := (rfl)
@[simp] theorem bAll_f : (bAll : OB Hy).f = allF := (rfl)
@[simp] theorem bIsi_f {T : Tab} {h : T.Ok Hy} : (bIsi T h).f = isiF T := (rfl)
@[simp] theorem addF_int : addF (.int i) (.int j) = some (.d (.int (i + j))) := (rfl)
@[simp] theorem addF_lst (h : xs.length + ys.length ≤ 16777216) : addF (.lst xs) (.lst ys) = some (.own (xs ++ ys)) := if_pos (sz h)
@[simp] theorem addF_tup (h : xs.length + ys.length ≤ 16777216) : addF (.tup xs) (.tup ys) = some (.d (.tup (xs ++ ys))) := if_pos (sz h)
@[simp] theorem subF_int : subF (.int i) (.int j) = some (.d (.int (i - j))) := (rfl)
theorem mulF_int (h : CMul i j ∨ CMulW i j) : mulF (.int i) (.int j) = some (.d (.int (i * j))) := if_pos h
@[simp] theorem mulF_l (h1 : -18446744073709551616 < i) (h2 : i < 18446744073709551616) : mulF (.int i) (.int j) = some (.d (.int (i * j))) := mulF_int (.inl (.inl ⟨by omega, by omega⟩))
@[simp] theorem mulF_r (h1 : -18446744073709551616 < j) (h2 : j < 18446744073709551616) : mulF (.int i) (.int j) = some (.d (.int (i * j))) := mulF_int (.inl (.inr ⟨by omega, by omega⟩))
@[simp] theorem mulF_lst {k : Int} (h0 : 0 ≤ k) (h1 : k < 9223372036854775808) (h2 : xs.length * k.toNat ≤ 16777216) : mulF (.lst xs) (.int k) = some (.own (List.replicate k.toNat xs).flatten) := if_pos ⟨by omega, by omega, sz h2⟩
@[simp] theorem mulF_tup {k : Int} (h : xs ≠ []) (h0 : 1 ≤ k) (h1 : k ≤ 1000000) (h2 : xs.length * k.toNat ≤ 1000000) : mulF (.tup xs) (.int k) = some (.d (.tup (List.replicate k.toNat xs).flatten)) := if_pos ⟨h, h0, h2, h1⟩
theorem divF_int (h : CDivW i j) : divF (.int i) (.int j) = some (.d (.int (i / j))) := if_pos h
@[simp] theorem divF_small (h : 0 < j) (h2 : j < 1073741824) : divF (.int i) (.int j) = some (.d (.int (i / j))) := divF_int (cdiv_small h h2)
@[simp] theorem modF_int (h : 0 < j) : modF (.int i) (.int j) = some (.d (.int (i % j))) := if_pos h
@[simp] theorem powF_int (h : 0 ≤ j) (h1 : j ≤ 1000000) (h2 : i.natAbs < 18446744073709551616) : powF (.int i) (.int j) = some (.d (.int (i ^ j.toNat))) := if_pos ⟨h, h1, by omega⟩
@[simp] theorem ltF_int : ltF (.int i) (.int j) = some (.d (.bl (decide (i < j)))) := (rfl)
@[simp] theorem leF_int : leF (.int i) (.int j) = some (.d (.bl (decide (i ≤ j)))) := (rfl)
@[simp] theorem gtF_int : gtF (.int i) (.int j) = some (.d (.bl (decide (j < i)))) := (rfl)
@[simp] theorem eqF2_int : eqF2 (.int i) (.int j) = some (.d (.bl (decide (i = j)))) := (rfl)
@[simp] theorem eqF2_bl : eqF2 (.bl a) (.bl b) = some (.d (.bl (decide (a = b)))) := (rfl)
@[simp] theorem eqF2_str {a b : Str} : eqF2 (.str a) (.str b) = some (.d (.bl (decide (a = b)))) := (rfl)
@[simp] theorem eqF2_in : eqF2 (.int i) .non = some (.d (.bl false)) := (rfl)
@[simp] theorem eqF2_ni : eqF2 .non (.int i) = some (.d (.bl false)) := (rfl)
@[simp] theorem eqF2_nn : eqF2 .non .non = some (.d (.bl true)) := (rfl)
@[simp] theorem neF2_int : neF2 (.int i) (.int j) = some (.d (.bl (!decide (i = j)))) := (rfl)
@[simp] theorem neF2_bl : neF2 (.bl a) (.bl b) = some (.d (.bl (!decide (a = b)))) := (rfl)
@[simp] theorem neF2_str {a b : Str} : neF2 (.str a) (.str b) = some (.d (.bl (!decide (a = b)))) := (rfl)
@[simp] theorem neF2_in : neF2 (.int i) .non = some (.d (.bl true)) := (rfl)
@[simp] theorem neF2_ni : neF2 .non (.int i) = some (.d (.bl true)) := (rfl)
@[simp] theorem neF2_nn : neF2 .non .non = some (.d (.bl false)) := (rfl)
@[simp] theorem neF2_scr {ns : List Int} : neF2 (scrD ns) (.lst []) = some (.d (.bl (!ns.isEmpty))) := by
  have h : (ns.map D.int).all (fun x => match x with | .int _ => true | _ => false) = true := by
    rw [List.all_map, List.all_eq_true]; intro i _; rfl
  show (if (ns.map D.int).all (fun x => match x with | .int _ => true | _ => false) = true then some (ns.map D.int).isEmpty else none).map _ = _
  rw [if_pos h]
  cases ns <;> rfl
/-- of two things that can be compared -/
theorem eqF2_of (h : cmpD x y = true) (hx : ∀ zs, x ≠ .scr zs) : eqF2 x y = some (.d (.bl (eqD x y))) := by
  have e : eqB x y = some (eqD x y) := by
    unfold eqB
    split
    · simp [eqD, pd, PyData.eqv]; rw [Bool.eq_iff_iff]; simp
    · simp [eqD, pd, PyData.eqv]; rw [Bool.eq_iff_iff]; simp
    · simp [eqD, pd, PyData.eqv]; rename_i i j; cases i <;> cases j <;> rfl
    · simp [eqD, pd, PyData.eqv]
    · simp [eqD, pd, PyData.eqv]
    · simp [eqD, pd, PyData.eqv]
    · exact (hx _ rfl).elim
    · rw [if_pos h]
  unfold eqF2
  split
  · exact (hx _ rfl).elim
  · rw [e]; rfl
theorem neF2_of (h : cmpD x y = true) (hx : ∀ zs, x ≠ .scr zs) : neF2 x y = some (.d (.bl (!eqD x y))) := by
  have e : eqB x y = some (eqD x y) := by
    unfold eqB
    split
    · simp [eqD, pd, PyData.eqv]; rw [Bool.eq_iff_iff]; simp
    · simp [eqD, pd, PyData.eqv]; rw [Bool.eq_iff_iff]; simp
    · simp [eqD, pd, PyData.eqv]; rename_i i j; cases i <;> cases j <;> rfl
    · simp [eqD, pd, PyData.eqv]
    · simp [eqD, pd, PyData.eqv]
    · simp [eqD, pd, PyData.eqv]
    · exact (hx _ rfl).elim
    · rw [if_pos h]
  unfold neF2
  rw [e]; rfl
@[simp] theorem isNF_n : isNF x .non = some (.d (.bl (isNon x))) := (rfl)
@[simp] theorem notNF_n : notNF x .non = some (.d (.bl (!isNon x))) := (rfl)
@[simp] theorem ixF_lst : ixF (.lst xs) (.int i) = (L2.atI xs i).map .d := (rfl)
@[simp] theorem ixF_tup : ixF (.tup xs) (.int i) = (L2.atI xs i).map .d := (rfl)
@[simp] theorem ixF_scr : ixF (.scr xs) (.int i) = (L2.atI xs i).map .d := (rfl)
@[simp] theorem negF_int : negF (.int i) = some (.d (.int (-i))) := (rfl)
@[simp] theorem lenF_lst : lenF [.lst xs] = some (.d (.int xs.length)) := (rfl)
@[simp] theorem lenF_tup : lenF [.tup xs] = some (.d (.int xs.length)) := (rfl)
@[simp] theorem lenF_scr : lenF [.scr xs] = some (.d (.int xs.length)) := (rfl)
@[simp] theorem min2F_int : min2F [.int i, .int j] = some (.d (.int (min i j))) := (rfl)
@[simp] theorem tru_bl : tru (.bl a) = some a := (rfl)
@[simp] theorem tru_non : tru .non = some false := (rfl)
@[simp] theorem tru_int : tru (.int i) = some (i != 0) := (rfl)
@[simp] theorem tru_lst : tru (.lst xs) = some (!xs.isEmpty) := (rfl)
@[simp] theorem tru_tup : tru (.tup xs) = some (!xs.isEmpty) := (rfl)
@[simp] theorem cutF_lst {lo hi : Option Int} : cutF (.lst xs) lo hi = .ok (.own (cutD xs lo hi)) := (rfl)
@[simp] theorem cutF_tup {lo hi : Option Int} : cutF (.tup xs) lo hi = .ok (.d (.tup (cutD xs lo hi))) := (rfl)
@[simp] theorem cutD_to {k : Int} (h : 0 ≤ k) : cutD xs none (some k) = xs.take k.toNat := cut_to h
@[simp] theorem cutD_from {k : Int} (h : 0 ≤ k) : cutD xs (some k) none = xs.drop k.toNat := cut_from h
@[simp] theorem one_1 : one [x] = some x := (rfl)
theorem allF_map {α : Type} (f : α → Bool) (l : List α) : allF [.lst (l.map fun x => D.bl (f x))] = some (.d (.bl (l.all f))) := by
  show (bools (l.map fun x => D.bl (f x))).map _ = _
  rw [bools_map]; simp
@[simp] theorem sizeLine_s : sizeLine = 16777216 := sizeLine_eq
@[simp] theorem inR_s (h1 : -4611686018427387904 ≤ i) (h2 : i < 4611686018427387904) : inR i = true := by
  unfold inR; rw [Bool.and_eq_true, decide_eq_true_eq, decide_eq_true_eq]; exact ⟨by omega, by omega⟩
theorem isi_ty1 {T : Tab} {n : String} (hk : known x = true) (hn : n ∈ ["int", "bool", "tuple", "list", "str"]) : isiF T [x, .ty n] = some (.d (.bl (isTy x n))) := by
  have h := kit_any hk hn
  have ht : tyOf T x = some (.inr (tyN x)) := by
    unfold tyOf
    split
    · simp [known] at hk
    · simp [known] at hk
    · rw [if_pos hk]
  show (tyOf T x).bind (fun t => (oneI T t (.ty n)).map fun b => S.d (.bl b)) = _
  rw [ht]
  show (kitB (tyN x) n).map _ = _
  unfold isTy
  cases e : kitB (tyN x) n with
  | none => rw [e] at h; cases h
  | some b => rfl
theorem isi_ty2 {T : Tab} {m n : String} (hk : known x = true) (hm : m ∈ ["int", "bool", "tuple", "list", "str"]) (hn : n ∈ ["int", "bool", "tuple", "list", "str"]) : isiF T [x, .tup [.ty m, .ty n]] = some (.d (.bl (isTy x m || isTy x n))) := by
  have h := kit_any hk hn
  have h1 := kit_any hk hm
  have ht : tyOf T x = some (.inr (tyN x)) := by
    unfold tyOf
    split
    · simp [known] at hk
    · simp [known] at hk
    · rw [if_pos hk]
  show (tyOf T x).bind (fun t => (anyI T t [.ty m, .ty n]).map fun b => S.d (.bl b)) = _
  rw [ht]
  unfold isTy
  cases e1 : kitB (tyN x) m with
  | none => rw [e1] at h1; cases h1
  | some b1 =>
    cases e : kitB (tyN x) n with
    | none => rw [e] at h; cases h
    | some b =>
      simp only [Option.bind, anyI, oneI, e1, e]
      cases b1 <;> cases b <;> simp [isCls]
@[simp] theorem isi_int {T : Tab} (hk : known x = true) : isiF T [x, .ty "int"] = some (.d (.bl (isTy x "int"))) := isi_ty1 hk (by simp)
@[simp] theorem isi_bool {T : Tab} (hk : known x = true) : isiF T [x, .ty "bool"] = some (.d (.bl (isTy x "bool"))) := isi_ty1 hk (by simp)
@[simp] theorem isi_tuple {T : Tab} (hk : known x = true) : isiF T [x, .ty "tuple"] = some (.d (.bl (isTy x "tuple"))) := isi_ty1 hk (by simp)
@[simp] theorem isi_list {T : Tab} (hk : known x = true) : isiF T [x, .ty "list"] = some (.d (.bl (isTy x "list"))) := isi_ty1 hk (by simp)
@[simp] theorem isi_str {T : Tab} (hk : known x = true) : isiF T [x, .ty "str"] = some (.d (.bl (isTy x "str"))) := isi_ty1 hk (by simp)
@[simp] theorem isi_tl {T : Tab} (hk : known x = true) : isiF T [x, .tup [.ty "tuple", .ty "list"]] = some (.d (.bl (isTy x "tuple" || isTy x "list"))) := isi_ty2 hk (by simp) (by simp)
@[simp] theorem isi_lt {T : Tab} (hk : known x = true) : isiF T [x, .tup [.ty "list", .ty "tuple"]] = some (.d (.bl (isTy x "list" || isTy x "tuple"))) := isi_ty2 hk (by simp) (by simp)
@[simp] theorem known_s1 : known (.int i) = true := (rfl)
@[simp] theorem known_s2 : known (.bl a) = true := (rfl)
@[simp] theorem known_s3 : known .non = true := (rfl)
@[simp] theorem known_s4 : known (.tup xs) = true := (rfl)
@[simp] theorem known_s5 : known (.lst xs) = true := (rfl)
@[simp] theorem known_s6 {z : Str} : known (.str z) = true := (rfl)
@[simp] theorem known_s7 {kvs : List (Key × D)} : known (.dK kvs) = true := (rfl)
@[simp] theorem isi_exc_cls {T : Tab} {C A : Addr} (h : C ∈ T.exc) : isiF T [.exc C [], .cls A] = (find2 T.cc C A).map fun b => .d (.bl b) := by
  have e : tyOf T (.exc C []) = some (.inl C) := if_pos h
  show (tyOf T (.exc C [])).bind (fun t => (oneI T t (.cls A)).map fun b => S.d (.bl b)) = _
  rw [e]; rfl
@[simp] theorem isi_exc_ty {T : Tab} {C : Addr} {n : String} (h : C ∈ T.exc) : isiF T [.exc C [], .ty n] = (find2 T.ct C n).map fun b => .d (.bl b) := by
  have e : tyOf T (.exc C []) = some (.inl C) := if_pos h
  show (tyOf T (.exc C [])).bind (fun t => (oneI T t (.ty n)).map fun b => S.d (.bl b)) = _
  rw [e]; rfl
@[simp] theorem isi_ins_cls {T : Tab} {C A : Addr} {fs : List (Str × D)} (h : C ∈ T.ins) : isiF T [.ins C fs, .cls A] = (find2 T.cc C A).map fun b => .d (.bl b) := by
  have e : tyOf T (.ins C fs) = some (.inl C) := if_pos h
  show (tyOf T (.ins C fs)).bind (fun t => (oneI T t (.cls A)).map fun b => S.d (.bl b)) = _
  rw [e]; rfl
@[simp] theorem eqF_bl : eqF (.bl a) (.bl b) = (a == b) := (rfl)
@[simp] theorem eqF_int : eqF (.int i) (.int j) = (i == j) := (rfl)
@[simp] theorem eqF_nn : eqF .non .non = true := (rfl)
@[simp] theorem eqF_in : eqF (.int i) .non = false := (rfl)
@[simp] theorem eqF_ni : eqF .non (.int i) = false := (rfl)
@[simp] theorem flatD_bl : flatD (.bl a) = true := (rfl)
@[simp] theorem flatD_int : flatD (.int i) = true := (rfl)
@[simp] theorem flatD_non : flatD .non = true := (rfl)
@[simp] theorem flatD_str {z : Str} : flatD (.str z) = true := (rfl)
@[simp] theorem find2_cons {α β : Type} [DecidableEq α] [DecidableEq β] {p : α × β × Bool} {r : List (α × β × Bool)} {a : α} {b : β} : find2 (p :: r) a b = if p.1 = a ∧ p.2.1 = b then some p.2.2 else find2 r a b := (rfl)

end
section
variable {g : List S → D → Option (List S)} {body : List S → Fl} {vs : List Nat} {δ : List S}
/-- a for by its slots ahead of each item -/
theorem forF_inv {ys : List D} (I : Nat → List S) (h : ∀ i y, ys[i]? = some y → ∃ δ1 δ2, g (I i) y = some δ1 ∧ (body δ1 = .nx δ2 ∨ body δ1 = .ct δ2) ∧ wpF vs δ2 = I (i + 1)) : forF g body vs ys (I 0) = .nx (I ys.length) := by
  have main : ∀ (n : Nat) (zs : List D), zs = ys.drop n → n ≤ ys.length → forF g body vs zs (I n) = .nx (I ys.length) := by
    intro n zs
    induction zs generalizing n with
    | nil =>
      intro e hn
      have : n = ys.length := by
        have := congrArg List.length e
        rw [List.length_drop, List.length_nil] at this; omega
      rw [this]; rfl
    | cons y r ih =>
      intro e hn
      have hlt : n < ys.length := by
        have := congrArg List.length e
        rw [List.length_drop, List.length_cons] at this; omega
      rw [List.drop_eq_getElem_cons hlt] at e
      obtain ⟨rfl, er⟩ := List.cons.inj e
      obtain ⟨δ1, δ2, h1, h2, h3⟩ := h n _ (List.getElem?_eq_getElem hlt)
      unfold forF
      rw [h1]
      rcases h2 with h2 | h2 <;> (simp only [h2]; rw [h3]; exact ih (n + 1) er hlt)
  exact main 0 ys rfl (Nat.zero_le _)
/-- .. over a range -/
theorem rg_get {lo : Int} {n i : Nat} {y : D} (h : (rg lo n)[i]? = some y) : i < n ∧ y = .int (lo + (i : Int)) := by
  unfold rg at h
  rw [List.getElem?_map, Option.map_eq_some_iff] at h
  obtain ⟨a, h1, rfl⟩ := h
  obtain ⟨h2, rfl⟩ := range_get h1
  exact ⟨h2, rfl⟩
@[simp] theorem rg_len {lo : Int} {n : Nat} : (rg lo n).length = n := by unfold rg; simp
theorem lcF_all {α : Type} {st : D → M (Option D)} {h f : α → D} : ∀ {ys : List α}, (∀ y ∈ ys, st (h y) = .ok (some (f y))) → lcF st (ys.map h) = .ok (ys.map f)
  | [], _ => rfl
  | y :: r, k => by
    show (st (h y)).bin _ = _
    rw [k y (List.mem_cons_self ..)]
    show (lcF st (r.map h)).bin _ = _
    rw [lcF_all (fun z hz => k z (List.mem_cons_of_mem _ hz))]; rfl
end
end Far
namespace Far
open PySem L2
section
variable {Hy : PySem.W.Frag → Prop}
end
end Far
namespace Far
open PySem L2
/-- no list in it -/
def lf : D → Bool
  | .non => true | .bl _ => true | .int _ => true | .str _ => true | .ty _ => true | .cls _ => true
  | .tup xs => lfL xs | .ins _ fs => lfF fs
  | _ => false
where
  lfL : List D → Bool
    | [] => true
    | x :: r => lf x && lfL r
  lfF : List (Str × D) → Bool
    | [] => true
    | (_, x) :: r => lf x && lfF r
theorem lfL_all : ∀ xs : List D, lf.lfL xs = xs.all lf
  | [] => by simp [lf.lfL]
  | x :: r => by rw [lf.lfL, List.all_cons, lfL_all r]
theorem lfF_all : ∀ fs : List (Str × D), lf.lfF fs = fs.all fun p => lf p.2
  | [] => by simp [lf.lfF]
  | (f, x) :: r => by rw [lf.lfF, List.all_cons, lfF_all r]
section
variable {K : PySem.W.Frag} {G G2 : Hp}
mutual
theorem Rp.trim (hG : ∀ a o, G a = some o → (∀ us, o ≠ .lst us) → (∀ us, o ≠ .dK us) → ntb o = true → G2 a = some o) : ∀ {x : D} {v : V}, lf x = true → Rp K G x v → Rp K G2 x v
  | _, _, _, .non => .non
  | _, _, _, .bl => .bl
  | _, _, _, .int => .int
  | _, _, _, .str => .str
  | _, _, _, .ty => .ty
  | _, _, _, .cls => .cls
  | _, _, l, .tup h r => .tup (h.imp (fun ⟨o, h1, h2⟩ => ⟨o, hG _ _ h1 (fun us z => by cases z) (fun us z => by cases z) rfl, h2⟩) id) (RpL.trim hG (by simpa [lf] using l) r)
  | _, _, l, .utp h r => by simp [lf] at l
  | _, _, l, .lst h r => by simp [lf] at l
  | _, _, l, .scr h r => by simp [lf] at l
  | _, _, l, .ins h r => .ins (hG _ _ h (fun us z => by cases z) (fun us z => by cases z) rfl) (RpF.trim hG (by simpa [lf] using l) r)
  | _, _, l, .dK h r => by simp [lf] at l
  | _, _, l, .dP h r => by simp [lf] at l
  | _, _, l, .dO h => by simp [lf] at l
  | _, _, l, .exc0 h => by simp [lf] at l
  | _, _, l, .exc1 h h2 r n => by simp [lf] at l
  | _, _, l, .exo h => by simp [lf] at l
  | _, _, l, .lam h r => by simp [lf] at l
theorem RpL.trim (hG : ∀ a o, G a = some o → (∀ us, o ≠ .lst us) → (∀ us, o ≠ .dK us) → ntb o = true → G2 a = some o) : ∀ {xs : List D} {vs : List V}, lf.lfL xs = true → RpL K G xs vs → RpL K G2 xs vs
  | _, _, _, .nil => .nil
  | _, _, l, .cons h r => by
    rw [lf.lfL, Bool.and_eq_true] at l
    exact .cons (Rp.trim hG l.1 h) (RpL.trim hG l.2 r)
theorem RpF.trim (hG : ∀ a o, G a = some o → (∀ us, o ≠ .lst us) → (∀ us, o ≠ .dK us) → ntb o = true → G2 a = some o) : ∀ {xs : List (Str × D)} {vs : List (Str × V)}, lf.lfF xs = true → RpF K G xs vs → RpF K G2 xs vs
  | _, _, _, .nil => .nil
  | _, _, l, .cons h r => by
    rw [lf.lfF, Bool.and_eq_true] at l
    exact .cons (Rp.trim hG l.1 h) (RpF.trim hG l.2 r)
end
end
section
variable {Hy : PySem.W.Frag → Prop}
@[simp] theorem lf_non : lf .non = true := by rw [lf]
@[simp] theorem lf_bl {b : Bool} : lf (.bl b) = true := by rw [lf]
@[simp] theorem lf_int {b : Int} : lf (.int b) = true := by rw [lf]
@[simp] theorem lf_str {b : Str} : lf (.str b) = true := by rw [lf]
@[simp] theorem lf_tup {xs : List D} : lf (.tup xs) = xs.all lf := by rw [lf]; exact lfL_all xs
@[simp] theorem lf_ins {C : Addr} {fs : List (Str × D)} : lf (.ins C fs) = fs.all fun p => lf p.2 := by rw [lf]; exact lfF_all fs
end
end Far
namespace Far
open PySem L2 PySem.Spec PyProof.Rows
section
variable {prog : Program} {w : World} {Ar : Around} {Ex' : Value → Shared → Prop} {s : Shared}
end
section
variable {X : Cx} {e : Expr} {te : L2.St → Hp → (Int → Int → Hp → Prop) → Prop}
end
end Far
namespace Far
open PySem L2 PySem.Spec PyProof.Rows HT
section
variable {prog : Program} {w : World} {A : Around} {E : Value → Shared → Prop} {s : Shared}
end
section
variable {X : Cx}
end
section
variable {K : PySem.W.Frag} {δ : List S} {te : TE} {xs : List D}
end
end Far
namespace Far
open PySem L2
/-- no instance in it -/
def ni : D → Bool
  | .non => true | .bl _ => true | .int _ => true | .str _ => true | .ty _ => true | .cls _ => true
  | .tup xs => niL xs | .lst xs => niL xs | .utp xs => niL xs | .scr xs => niL xs
  | _ => false
where
  niL : List D → Bool
    | [] => true
    | x :: r => ni x && niL r
theorem niL_all : ∀ xs : List D, ni.niL xs = xs.all ni
  | [] => by simp [ni.niL]
  | x :: r => by rw [ni.niL, List.all_cons, niL_all r]
section
variable {K : PySem.W.Frag} {G G2 : Hp}
mutual
theorem Rp.trimI (hG : ∀ a o, G a = some o → (∀ C dx gs, o ≠ .ins C dx gs) → G2 a = some o) : ∀ {x : D} {v : V}, ni x = true → Rp K G x v → Rp K G2 x v
  | _, _, _, .non => .non
  | _, _, _, .bl => .bl
  | _, _, _, .int => .int
  | _, _, _, .str => .str
  | _, _, _, .ty => .ty
  | _, _, _, .cls => .cls
  | _, _, l, .tup h r => .tup (h.imp (fun ⟨o, h1, h2⟩ => ⟨o, hG _ _ h1 (fun _ _ _ z => by cases z), h2⟩) id) (RpL.trimI hG (by simpa [ni] using l) r)
  | _, _, l, .utp h r => .utp (h.imp (fun h => h.imp (fun h => hG _ _ h (fun _ _ _ z => by cases z)) (fun ⟨o, h⟩ => ⟨o, hG _ _ h (fun _ _ _ z => by cases z)⟩)) id) (RpL.trimI hG (by simpa [ni] using l) r)
  | _, _, l, .lst h r => .lst (hG _ _ h (fun _ _ _ z => by cases z)) (RpL.trimI hG (by simpa [ni] using l) r)
  | _, _, l, .scr h r => .scr (h.imp (fun h => h.imp (fun h => hG _ _ h (fun _ _ _ z => by cases z)) (fun ⟨o, h⟩ => ⟨o, hG _ _ h (fun _ _ _ z => by cases z)⟩)) id) (RpL.trimI hG (by simpa [ni] using l) r)
  | _, _, l, .ins h r => by simp [ni] at l
  | _, _, l, .dK h r => by simp [ni] at l
  | _, _, l, .dP h r => by simp [ni] at l
  | _, _, l, .dO h => by simp [ni] at l
  | _, _, l, .exc0 h => by simp [ni] at l
  | _, _, l, .exc1 h h2 r n => by simp [ni] at l
  | _, _, l, .exo h => by simp [ni] at l
  | _, _, l, .lam h r => by simp [ni] at l
theorem RpL.trimI (hG : ∀ a o, G a = some o → (∀ C dx gs, o ≠ .ins C dx gs) → G2 a = some o) : ∀ {xs : List D} {vs : List V}, ni.niL xs = true → RpL K G xs vs → RpL K G2 xs vs
  | _, _, _, .nil => .nil
  | _, _, l, .cons h r => by
    rw [ni.niL, Bool.and_eq_true] at l
    exact .cons (Rp.trimI hG l.1 h) (RpL.trimI hG l.2 r)
end
theorem RpF.trimI (hG : ∀ a o, G a = some o → (∀ C dx gs, o ≠ .ins C dx gs) → G2 a = some o) : ∀ {fs : List (Str × D)} {gs : List (Str × V)}, (fs.all fun p => ni p.2) = true → RpF K G fs gs → RpF K G2 fs gs
  | _, _, _, .nil => .nil
  | _, _, l, .cons h r => by
    rw [List.all_cons, Bool.and_eq_true] at l
    exact .cons (Rp.trimI hG l.1 h) (RpF.trimI hG l.2 r)
end
section
variable {K : PySem.W.Frag} {He Ge H G : Hp} {σ : L2.St} {δ : List S}
end
section
variable {Hy : PySem.W.Frag → Prop}
@[simp] theorem ni_non : ni .non = true := by rw [ni]
@[simp] theorem ni_bl {b : Bool} : ni (.bl b) = true := by rw [ni]
@[simp] theorem ni_int {b : Int} : ni (.int b) = true := by rw [ni]
@[simp] theorem ni_str {b : Str} : ni (.str b) = true := by rw [ni]
@[simp] theorem ni_tup {xs : List D} : ni (.tup xs) = xs.all ni := by rw [ni]; exact niL_all xs
@[simp] theorem ni_lst {xs : List D} : ni (.lst xs) = xs.all ni := by rw [ni]; exact niL_all xs
end
end Far
namespace Far
open PySem L2
section
variable {Hy : PySem.W.Frag → Prop}
end
end Far
namespace Far
open PySem L2
section
variable {Hy : PySem.W.Frag → Prop}
end
end Far
namespace Far
open PySem L2 PySem.Spec PyProof.Rows
structure FnOkG (P : Program) (w : World) (K : PySem.W.Frag) (mg : Str → Option Value) (base : Heap) (CX : CXT) (k : Nat) (f : Addr) (fd : FuncData) (ps : List Str) (sp : Sp) : Prop where
  len : ∀ vs H Q E, sp vs H Q E → vs.length = ps.length
  run : ∀ (A : Around) (outer : List Env) (s : Shared) (H : Hp) (args : Args) (us : List Value) (vs : List V) (Q : VK) (E : XK), A.guards = some [] →
    Room k A → Env0 P w K mg base A outer s H → BindsTo s fd args (ps.zip us) → Vals vs us → sp vs H Q E → codeAny (model P w) A (.call (.ref f) args) (CR CX outer P w H s Q E) s
section
variable {CX : CXT} {P : Program} {w : World} {K : PySem.W.Frag} {mg : Str → Option Value} {base : Heap}
theorem FnOkG.imp {k : Nat} {f : Addr} {fd : FuncData} {ps : List Str} {sp sp' : Sp} (F : FnOkG P w K mg base CX k f fd ps sp) (h : ∀ vs H Q E, sp' vs H Q E → sp vs H Q E) : FnOkG P w K mg base CX k f fd ps sp' :=
  ⟨fun vs H Q E q => F.len vs H Q E (h vs H Q E q), fun A outer s H args us vs Q E g hr he hb hv hs => F.run A outer s H args us vs Q E g hr he hb hv (h vs H Q E hs)⟩
end
section
variable {X : Cx} {CX : CXT} {k : Nat} {f : Addr} {fd : FuncData} {ps : List Str} {sp : Sp} {dvs : List V} {ds : List Value} {E : XK}
end
end Far
namespace Far
open PySem L2 PySem.Spec PyProof.Rows
mutual
def pyd : D → PyData
  | .non => .none
  | .bl b => .bool b
  | .int i => .int i
  | .str w => .str w
  | .lst xs => .list (pydL xs)
  | .tup xs => .tuple (pydL xs)
  | .dK kvs => .dict (pydK kvs)
  | _ => .none
def pydK : List (Key × D) → List (PyData × PyData)
  | [] => []
  | (.inl i, x) :: xs => (.int i, pyd x) :: pydK xs
  | (.inr w, x) :: xs => (.str w, pyd x) :: pydK xs
def pydL : List D → List PyData
  | [] => []
  | x :: xs => pyd x :: pydL xs
end
mutual
/-- what holds no dict -/
def okn : D → Bool
  | .non => true
  | .bl _ => true
  | .int _ => true
  | .str _ => true
  | .lst xs => oknL xs
  | .tup xs => oknL xs
  | _ => false
def oknL : List D → Bool
  | [] => true
  | x :: xs => okn x && oknL xs
end
mutual
def okd : D → Bool
  | .non => true
  | .bl _ => true
  | .int _ => true
  | .str _ => true
  | .lst xs => okdL xs
  | .tup xs => okdL xs
  | .dK kvs => kvs.all fun q => okn q.2
  | _ => false
def okdL : List D → Bool
  | [] => true
  | x :: xs => okd x && okdL xs
end
section
variable {X : Cx} {pins : List (Addr × Obj)} {σ : L2.St} {H G : Hp} {s : Shared}
theorem readsAll_nil {h : Heap} {ds : List PyData} {as : List Addr} (r : ReadsAll h [] ds as) : ds = [] := by cases r; rfl
mutual
theorem reads_of (I : Inv X pins σ H s) (e : Ex G H) : ∀ {x : D} {v : V} {u : Value}, Rp X.K G x v → okn x = true → RelV v u → ∃ as, Reads s.heap u (pyd x) as ∧ (pyd x).hasDict = false
  | .non, _, _, .non, _, r => by cases r; exact ⟨_, by unfold pyd; exact .none, by unfold pyd; rfl⟩
  | .bl b, _, _, .bl, _, r => by cases r; exact ⟨_, by unfold pyd; exact .bool b, by unfold pyd; rfl⟩
  | .int i, _, _, .int, _, r => by obtain ⟨t, rfl⟩ := r; exact ⟨_, by unfold pyd; exact .int i t, by unfold pyd; rfl⟩
  | .str w, _, _, .str, _, r => by obtain ⟨t, rfl⟩ := r; exact ⟨_, by unfold pyd; exact .str w t, by unfold pyd; rfl⟩
  | .lst xs, _, _, .lst (a := a) hp hr, ok, r => by
    cases r
    unfold okn at ok
    unfold pyd
    obtain ⟨its, rv, ⟨o, n, ho, hc, hdn, hd⟩, hlen⟩ := I.list (SqL.of (e _ _ hp))
    obtain ⟨as, ra, nd⟩ := readsL_of I e hr ok rv
    exact ⟨_, .list ho hc hd (by simpa using ra), by simpa [PyData.hasDict] using nd⟩
  | .tup xs, _, _, .tup (a := a) hp hr, ok, r => by
    cases r
    unfold okn at ok
    unfold pyd
    obtain ⟨its, rv, ⟨o, ho, hc, n, hd⟩, hlen⟩ := I.tuple (e.t hp.t)
    obtain ⟨as, ra, nd⟩ := readsL_of I e hr ok rv
    exact ⟨_, .tuple ho hc hd (by simpa using ra), by simpa [PyData.hasDict] using nd⟩
  | .dK _, _, _, _, ok, _ => by unfold okn at ok; cases ok
  | .dP _, _, _, _, ok, _ => by unfold okn at ok; cases ok
  | .ty _, _, _, _, ok, _ => by unfold okn at ok; cases ok
  | .cls _, _, _, _, ok, _ => by unfold okn at ok; cases ok
  | .utp _, _, _, _, ok, _ => by unfold okn at ok; cases ok
  | .scr _, _, _, _, ok, _ => by unfold okn at ok; cases ok
  | .ins _ _, _, _, _, ok, _ => by unfold okn at ok; cases ok
  | .exc _ _, _, _, _, ok, _ => by unfold okn at ok; cases ok
  | .dO _, _, _, _, ok, _ => by unfold okn at ok; cases ok
  | .lam _ _ _ _ _, _, _, _, ok, _ => by unfold okn at ok; cases ok
theorem readsL_of (I : Inv X pins σ H s) (e : Ex G H) : ∀ {xs : List D} {vs : List V} {us : List Value}, RpL X.K G xs vs → oknL xs = true → Vals vs us → ∃ as, ReadsAll s.heap us (pydL xs) as ∧ PyData.hasDictAll (pydL xs) = false
  | [], _, _, .nil, _, .nil => ⟨_, .nil, by unfold pydL PyData.hasDictAll; rfl⟩
  | x :: xs, _, _, .cons hx hr, ok, .cons r rs => by
    unfold oknL at ok
    rw [Bool.and_eq_true] at ok
    unfold pydL
    obtain ⟨a1, r1, n1⟩ := reads_of I e hx ok.1 r
    obtain ⟨a2, r2, n2⟩ := readsL_of I e hr ok.2 rs
    exact ⟨_, .cons r1 r2, by unfold PyData.hasDictAll; rw [n1, n2]; rfl⟩
end
theorem readsK_of {P : Program} {w : World} (I : Inv X pins σ H s) (e : Ex G H) : ∀ {kvs : List (Key × D)} {gs : List (Key × V)} {vs : List (Key × Value)} {es : List DictEntry}, RpK X.K G kvs gs → (kvs.all fun q => okn q.2) = true → KV gs vs → Pairs (mixKind P w) es vs →
    ∃ as bs, ReadsAll s.heap (es.map (·.key)) ((pydK kvs).map (·.1)) as ∧ ReadsAll s.heap (es.map (·.val)) ((pydK kvs).map (·.2)) bs ∧ PyData.hasDictAll ((pydK kvs).map (·.1)) = false ∧ PyData.hasDictAll ((pydK kvs).map (·.2)) = false
  | [], _, _, _, .nil, _, .nil, .nil => ⟨_, _, .nil, .nil, by unfold pydK PyData.hasDictAll; rfl, by unfold pydK PyData.hasDictAll; rfl⟩
  | (k, x) :: xs, _, _, _, .cons hx hr, ok, .cons (b := b) r rs, .cons (e := e') hk hv hp => by
    rw [List.all_cons, Bool.and_eq_true] at ok
    obtain ⟨a2, b2, r1, r2, n1, n2⟩ := readsK_of I e hr ok.2 rs hp
    obtain ⟨a3, r3, n3⟩ := reads_of I e hx ok.1 (r.2)
    rw [← hv] at r3
    have e1 := r.1
    simp only at e1
    rw [← e1] at hk
    rcases keyIs_shape hk with ⟨i, t, ez, ek⟩ | ⟨w, t, ez, ek⟩
    · subst ez
      refine ⟨_, _, .cons (by show Reads s.heap e'.key _ _; rw [ek]; exact .int i t) r1, .cons r3 r2, ?_, ?_⟩
      · unfold pydK; simp only [List.map_cons]; unfold PyData.hasDictAll; rw [n1]; rfl
      · unfold pydK; simp only [List.map_cons]; unfold PyData.hasDictAll; rw [n2, n3]; rfl
    · subst ez
      refine ⟨_, _, .cons (by show Reads s.heap e'.key _ _; rw [ek]; exact .str w t) r1, .cons r3 r2, ?_, ?_⟩
      · unfold pydK; simp only [List.map_cons]; unfold PyData.hasDictAll; rw [n1]; rfl
      · unfold pydK; simp only [List.map_cons]; unfold PyData.hasDictAll; rw [n2, n3]; rfl
/-- a dict's entries as they are told -/
theorem entK_of (I : Inv X pins σ H s) (e : Ex G H) {kvs : List (Key × D)} {gs : List (Key × V)} {a : Addr} (hp : G a = some (.dK gs)) (hr : RpK X.K G kvs gs) (ok : (kvs.all fun q => okn q.2) = true) (hs : (PyData.dict (pydK kvs)).showable = true)
    (hz : (PyData.dict (pydK kvs)).shown.length ≤ sizeLine) : ∃ o es n as, s.heap.get? a = some o ∧ o.cls = .type "dict" ∧ o.data = .dict es n ∧ (a == sysModules) = false ∧ Reads s.heap (.ref a) (.dict (pydK kvs)) as ∧
    ∃ bs, ReadAtMost s.heap (PyData.depthKv (pydK kvs)) bs ∧ a ∉ bs ∧ ReprEntriesK X.prog X.w bs s.heap (PyData.depthKv (pydK kvs)) es.toList (PyData.shownKv (pydK kvs)) := by
  obtain ⟨_, hsys, vs, rel, o, es, ep, ho, hx, hd, _, hps, _⟩ := dk_of I.hok (e _ _ hp)
  obtain ⟨as, bs, r1, r2, n1, n2⟩ := readsK_of I e hr ok rel hps
  have r : Reads s.heap (.ref a) (.dict (pydK kvs)) _ := .dict ho hx.1 hd r1 r2
  have hz' : (dictText (PyData.shownKv (pydK kvs))).length ≤ sizeLine := by simpa only [PyData.shown] using hz
  obtain ⟨hs1, hs2⟩ := PyData.showableKv_split (pydK kvs) (by simpa [PyData.showable] using hs)
  obtain ⟨b1, hb1, k1⟩ := ReprAllK.of_readsAll (prog := X.prog) (w := X.w) r1 hs1 (fun z => by rw [n1] at z; cases z) fun t ht => by
    obtain ⟨p, hp, hl⟩ := PyData.shownKv_key_le _ t ht
    exact Nat.le_trans hl (Nat.le_trans (dictText_mem_le hp) hz')
  obtain ⟨b2, hb2, k2⟩ := ReprAllK.of_readsAll (prog := X.prog) (w := X.w) r2 hs2 (fun z => by rw [n2] at z; cases z) fun t ht => by
    obtain ⟨p, hp, hl⟩ := PyData.shownKv_val_le _ t ht
    exact Nat.le_trans hl (Nat.le_trans (dictText_mem_le hp) hz')
  have hb : ReadAtMost s.heap (PyData.depthKv (pydK kvs)) (b1 ++ b2) := (hb1.mono (PyData.depthAll_keys_le _)).append (hb2.mono (PyData.depthAll_vals_le _))
  refine ⟨o, es, ep, _, ho, hx.1, hd, hsys, r, b1 ++ b2, hb, not_mem_of_deeper r (by simp only [PyData.depth]; omega) hb, ?_⟩
  rw [PyData.shownKv_eq]
  exact ReprEntriesK.of_two es.toList _ _ (k1.more_le (fun b hb => List.mem_append_left _ hb) (PyData.depthAll_keys_le _)) (k2.more_le (fun b hb => List.mem_append_right _ hb) (PyData.depthAll_vals_le _))
mutual
theorem rk_of (I : Inv X pins σ H s) (e : Ex G H) : ∀ {x : D} {v : V} {u : Value}, Rp X.K G x v → okd x = true → RelV v u → (pyd x).showable = true → (pyd x).shown.length ≤ sizeLine →
    ∃ as bs, Reads s.heap u (pyd x) as ∧ ReadAtMost s.heap (pyd x).depth bs ∧ ReprK X.prog X.w bs s.heap (pyd x).depth u (pyd x).shown
  | .non, _, _, .non, _, r, _, _ => by cases r; exact ⟨_, [], by unfold pyd; exact .none, (fun _ h => nomatch h), by unfold pyd; simp only [PyData.shown]; exact .of_is ReprIs.none _ _ _⟩
  | .bl b, _, _, .bl, _, r, _, _ => by cases r; exact ⟨_, [], by unfold pyd; exact .bool b, (fun _ h => nomatch h), by unfold pyd; simp only [PyData.shown]; exact .of_is (ReprIs.bool b) _ _ _⟩
  | .int i, _, _, .int, _, r, hs, _ => by obtain ⟨t, rfl⟩ := r; exact ⟨_, [], by unfold pyd; exact .int i t, (fun _ h => nomatch h), by unfold pyd at hs ⊢; simp only [PyData.shown]; exact .of_is (ReprIs.int t (by simpa [PyData.showable] using hs)) _ _ _⟩
  | .str w, _, _, .str, _, r, _, hz => by obtain ⟨t, rfl⟩ := r; exact ⟨_, [], by unfold pyd; exact .str w t, (fun _ h => nomatch h), by unfold pyd at hz ⊢; simp only [PyData.shown]; exact .of_is (ReprIs.str w t (by simpa only [PyData.shown] using hz)) _ _ _⟩
  | .lst xs, _, _, .lst (a := a) hp hr, ok, r, hs, hz => by
    cases r
    unfold okd at ok
    unfold pyd at hs hz ⊢
    obtain ⟨its, rv, ⟨o, n, ho, hc, hdn, hd⟩, hlen⟩ := I.list (SqL.of (e _ _ hp))
    have hz' : (listText (PyData.shownAll (pydL xs))).length ≤ sizeLine := by simpa only [PyData.shown] using hz
    obtain ⟨as, bs, ra, hb, hk⟩ := rkL_of I e hr ok rv (by simpa [PyData.showable] using hs) fun t ht => Nat.le_trans (listText_mem_le ht) hz'
    have r : Reads s.heap (.ref a) (.list (pydL xs)) _ := .list ho hc hd (by simpa using ra)
    have hna : a ∉ bs := not_mem_of_deeper r (by simp only [PyData.depth]; omega) hb
    refine ⟨_, a :: bs, r, ReadAtMost.cons r (by simp only [PyData.depth]; omega) hb, ?_⟩
    simp only [PyData.depth, PyData.shown]
    cases its with
    | nil =>
      have z : pydL xs = [] := readsAll_nil ra
      rw [z]
      simp only [PyData.shownAll, listText_nil]
      exact ReprK.listEmpty ho hc hd
    | cons x l => exact ReprK.list ho hc hd hna (by simpa using hk.length_eq) (fun i y e => hk.item i y (by simpa using e))
  | .tup xs, _, _, .tup (a := a) hp hr, ok, r, hs, hz => by
    cases r
    unfold okd at ok
    unfold pyd at hs hz ⊢
    obtain ⟨its, rv, ⟨o, ho, hc, n, hd⟩, hlen⟩ := I.tuple (e.t hp.t)
    have hz' : (tupleText (PyData.shownAll (pydL xs))).length ≤ sizeLine := by simpa only [PyData.shown] using hz
    obtain ⟨as, bs, ra, hb, hk⟩ := rkL_of I e hr ok rv (by simpa [PyData.showable] using hs) fun t ht => Nat.le_trans (tupleText_mem_le ht) hz'
    have r : Reads s.heap (.ref a) (.tuple (pydL xs)) _ := .tuple ho hc hd (by simpa using ra)
    have hna : a ∉ bs := not_mem_of_deeper r (by simp only [PyData.depth]; omega) hb
    refine ⟨_, a :: bs, r, ReadAtMost.cons r (by simp only [PyData.depth]; omega) hb, ?_⟩
    simp only [PyData.depth, PyData.shown]
    exact ReprK.tuple ho hc hd hna (by simpa using hk)
  | .dK kvs, _, _, .dK (a := a) hp hr, ok, r, hs, hz => by
    cases r
    unfold okd at ok
    unfold pyd at hs hz ⊢
    obtain ⟨o, es, n, as, ho, hc, hd, hsys, r, bs, hb, hna, hE⟩ := entK_of I e hp hr ok hs hz
    refine ⟨as, a :: bs, r, ReadAtMost.cons r (by simp only [PyData.depth]; omega) hb, ?_⟩
    simp only [PyData.depth, PyData.shown]
    exact ReprK.dict ho hc hd hsys hna hE
  | .ty _, _, _, _, ok, _, _, _ => by unfold okd at ok; cases ok
  | .cls _, _, _, _, ok, _, _, _ => by unfold okd at ok; cases ok
  | .utp _, _, _, _, ok, _, _, _ => by unfold okd at ok; cases ok
  | .scr _, _, _, _, ok, _, _, _ => by unfold okd at ok; cases ok
  | .ins _ _, _, _, _, ok, _, _, _ => by unfold okd at ok; cases ok
  | .exc _ _, _, _, _, ok, _, _, _ => by unfold okd at ok; cases ok
  | .dO _, _, _, _, ok, _, _, _ => by unfold okd at ok; cases ok
  | .dP _, _, _, _, ok, _, _, _ => by unfold okd at ok; cases ok
  | .lam _ _ _ _ _, _, _, _, ok, _, _, _ => by unfold okd at ok; cases ok
theorem rkL_of (I : Inv X pins σ H s) (e : Ex G H) : ∀ {xs : List D} {vs : List V} {us : List Value}, RpL X.K G xs vs → okdL xs = true → Vals vs us → PyData.showableAll (pydL xs) = true → (∀ t ∈ PyData.shownAll (pydL xs), t.length ≤ sizeLine) →
    ∃ as bs, ReadsAll s.heap us (pydL xs) as ∧ ReadAtMost s.heap (PyData.depthAll (pydL xs)) bs ∧ ReprAllK X.prog X.w bs s.heap (PyData.depthAll (pydL xs)) us (PyData.shownAll (pydL xs))
  | [], _, _, .nil, _, .nil, _, _ => ⟨_, [], .nil, (fun _ h => nomatch h), by unfold pydL; simp only [PyData.shownAll]; exact .nil⟩
  | x :: xs, _, _, .cons hx hr, ok, .cons r rs, hs, hz => by
    unfold okdL at ok
    rw [Bool.and_eq_true] at ok
    unfold pydL at hs hz ⊢
    have hs' : (pyd x).showable = true ∧ PyData.showableAll (pydL xs) = true := by simpa [PyData.showableAll] using hs
    obtain ⟨a1, b1, r1, hb1, k1⟩ := rk_of I e hx ok.1 r hs'.1 (hz _ (by simp only [PyData.shownAll]; exact List.mem_cons_self ..))
    obtain ⟨a2, b2, r2, hb2, k2⟩ := rkL_of I e hr ok.2 rs hs'.2 fun t ht => hz t (by simp only [PyData.shownAll]; exact List.mem_cons_of_mem _ ht)
    refine ⟨_, b1 ++ b2, .cons r1 r2, ?_, ?_⟩
    · simp only [PyData.depthAll]
      exact (hb1.mono (Nat.le_max_left _ _)).append (hb2.mono (Nat.le_max_right _ _))
    · simp only [PyData.depthAll, PyData.shownAll]
      exact .cons ((k1.more fun b hb => List.mem_append_left _ hb).level_le (Nat.le_max_left _ _)) (k2.more_le (fun b hb => List.mem_append_right _ hb) (Nat.le_max_right _ _))
end
/-- what may be told of: small enough, and not too deep -/
def okR (x : D) : Bool := okd x && (pyd x).showable && decide ((pyd x).shown.length ≤ sizeLine) && decide ((pyd x).depth ≤ 100)
end
end Far
namespace Far
open PySem L2
theorem _root_.PySem.L2.Room.rep {k : Nat} {A : Around} (h : Room k A) : A.units + 200 < cLine := by have := h.un; omega
end Far
namespace Far
open PySem L2 PySem.Spec PyProof.Rows
section
end
end Far
namespace Far
open PySem L2 PyProof.Rows
section
variable {X : Cx} {pins : List (Addr × Obj)} {σ : L2.St} {H : Hp} {s : Shared}
end
section
variable {X : Cx} {CX : CXT} {k : Nat} {f : Addr} {fd : FuncData} {ps : List Str} {sp : Sp} {E : XK} {a it S : Addr} {all : List Int}
end
end Far
namespace Far
open PySem L2
section
variable {K : PySem.W.Frag} {δ : List S} {F : List D → M S} {ta : TA} {s : S} {ns : List Int} {E : XK}
end
variable {Hy : PySem.W.Frag → Prop}
section
variable {F : List D → M S} {a : SA Hy} {δ : List S} {xs : List D}
end
end Far
namespace Far
open PySem L2
def zipD : List D → List D → List D
  | x :: xs, y :: ys => .utp [x, y] :: zipD xs ys
  | _, _ => []
theorem zipD_len : ∀ (xs ys : List D), (zipD xs ys).length = min xs.length ys.length
  | [], _ => by simp [zipD]
  | _ :: _, [] => by simp [zipD]
  | _ :: xs, _ :: ys => by simp [zipD, zipD_len xs ys]
theorem zipD_get : ∀ (xs ys : List D) (i : Nat) (x y : D), xs[i]? = some x → ys[i]? = some y → (zipD xs ys)[i]? = some (.utp [x, y])
  | [], _, _, _, _, h, _ => by simp at h
  | _ :: _, [], _, _, _, _, h => by simp at h
  | a :: xs, b :: ys, 0, x, y, h1, h2 => by simp at h1 h2; subst h1 h2; rfl
  | a :: xs, b :: ys, i + 1, x, y, h1, h2 => zipD_get xs ys i x y (by simpa using h1) (by simpa using h2)
section
variable {K : PySem.W.Frag} {δ : List S}
theorem grow_tup {H G1 : Hp} {T : Addr} {xs : List D} {vs : List V} (e2 : Ex G1 H) (hT : H T = none) (r : RpL K G1 xs vs) : ∃ G2, Ex H (upd H T (.tup vs)) ∧ Ex G1 G2 ∧ Ex G2 (upd H T (.tup vs)) ∧ Nw K H G1 (upd H T (.tup vs)) G2 ∧ Rp K G2 (.utp xs) (.ref T) := by
  have hg : G1 T = none := e2.none hT
  refine ⟨upd G1 T (.tup vs), .new hT, .new hg, e2.both, ⟨fun b h1 h2 => ?_, fun t => t.new hT (.new hg)⟩, .utp (.inl (.inl upd_same)) (r.mono (.new hg))⟩
  · rw [upd_ne (fun q => h1 (by rw [q]; exact hT))]; exact h2
theorem jig_zip {G : Hp} {a b : Addr} {vs us : List V} {xs ys : List D} (hp : G a = some (.lst vs)) (hq : G b = some (.lst us)) (r : RpL K G xs vs) (s : RpL K G ys us) : JIg K G (Itz K a b) (zipD xs ys) := fun H G1 e1 e2 => by
  have h := SqL.of (K := K) (e2 _ _ (e1 _ _ hp))
  have k := SqL.of (K := K) (e2 _ _ (e1 _ _ hq))
  have hl := r.length
  have kl := s.length
  rw [zipD_len]
  refine ⟨fun i hi => ⟨vs, us, vs[i], us[i], h, k, List.getElem?_eq_getElem (by omega), List.getElem?_eq_getElem (by omega)⟩, fun i v H' hy hi => ?_, fun i hi => ⟨vs, us, h, k, by omega⟩⟩
  obtain ⟨T, x, z, rfl, hT, rfl, hx, hz⟩ := hy
  obtain ⟨y, ey, ry⟩ := r.getV (hx vs h)
  obtain ⟨w, ew, rw_⟩ := s.getV (hz us k)
  obtain ⟨G2, g1, g2, g3, g4, rp⟩ := grow_tup (K := K) (xs := [y, w]) (vs := [x, z]) e2 hT (.cons (ry.mono e1) (.cons (rw_.mono e1) .nil))
  exact ⟨G2, _, g1, g2, g3, g4, zipD_get xs ys i y w ey ew, rp⟩
theorem ei_zip {tr : TA} {xs ys : List D} (h : EA K tr δ [.lst xs, .lst ys]) : EI K (iZip K tr) δ (zipD xs ys) := by
  intro He Ge H τo τs σ hl ok R q
  refine h He Ge H τo τs σ hl ok _ fun vs H1 G ok1 r1 => ?_
  cases r1 with
  | cons r1 r2 =>
    cases r2 with
    | cons r2 r3 =>
      cases r3
      cases r1 with
      | lst hp r =>
        cases r2 with
        | lst hq s => exact ⟨_, _, _, _, rfl, SqL.of (ok1.gh _ _ hp), SqL.of (ok1.gh _ _ hq), q _ H1 G ok1 (jig_zip hp hq r s)⟩
end
section
variable {Hy : PySem.W.Frag → Prop}
def zipF (xs : List D) : M (List D) := match xs with | [.lst xs, .lst ys] => .ok (zipD xs ys) | _ => .no
def SI.zip (a : SA Hy) : SI Hy where
  t K W := iZip K (a.t K W)
  f δ := (a.f δ).bin zipF
  ok K hk W δ := by
    cases h : a.f δ with
    | ok xs =>
      rw [M.ok_bin]
      unfold zipF
      split
      · exact ei_zip (a.okA hk h)
      · trivial
    | _ => trivial
@[simp] theorem SI.zip_f (a : SA Hy) (δ : List S) : (SI.zip a).f δ = (a.f δ).bin zipF := (rfl)
@[simp] theorem zipF_l {xs ys : List D} : zipF [.lst xs, .lst ys] = .ok (zipD xs ys) := (rfl)
end
end Far
namespace Far
open PySem L2
def keyD : D → Option Key
  | .int i => some (.inl i) | .str x => some (.inr x) | _ => none
def valD (kvs : List (Key × D)) (k : Key) : Option D := (kvs.find? fun kv => decide (kv.1 = k)).map (·.2)
def putKD (kvs : List (Key × D)) (k : Key) (v : D) : List (Key × D) := if (kvs.any fun kv => decide (kv.1 = k)) = true then kvs.map (fun kv => if kv.1 = k then (kv.1, v) else kv) else kvs ++ [(k, v)]
section
variable {K : PySem.W.Frag} {H G : Hp} {δ : List S}
theorem keyD_rp {x : D} {v : V} {k : Key} (h : keyD x = some k) (r : Rp K G x v) : v = kV k := by
  cases r <;> simp only [keyD] at h <;> (first | (cases h; rfl) | (cases h; done))
theorem RpK.length : ∀ {xs : List (Key × D)} {vs : List (Key × V)}, RpK K G xs vs → xs.length = vs.length
  | _, _, .nil => rfl
  | _, _, .cons _ r => congrArg (· + 1) r.length
theorem RpK.val {k : Key} : ∀ {xs : List (Key × D)} {vs : List (Key × V)}, RpK K G xs vs → (∀ x, valD xs k = some x → ∃ v, valV vs k = some v ∧ Rp K G x v) ∧ (valD xs k = none → valV vs k = none)
  | _, _, .nil => ⟨fun x h => (by cases h), fun _ => rfl⟩
  | _, _, .cons (f := f) (x := x) (v := v) (xs := xs) (vs := vs) h r => by
    unfold valD valV
    rw [List.find?_cons, List.find?_cons]
    by_cases e : f = k
    · simp only [e, decide_true]
      exact ⟨fun y hy => by cases hy; exact ⟨_, rfl, h⟩, fun z => nomatch z⟩
    · simp only [decide_eq_false e]
      exact RpK.val r
theorem RpK.any {k : Key} : ∀ {xs : List (Key × D)} {vs : List (Key × V)}, RpK K G xs vs → (xs.any fun kv => decide (kv.1 = k)) = (vs.any fun kv => decide (kv.1 = k))
  | _, _, .nil => rfl
  | _, _, .cons h r => by rw [List.any_cons, List.any_cons, r.any]
theorem RpK.app : ∀ {xs ys : List (Key × D)} {vs us : List (Key × V)}, RpK K G xs vs → RpK K G ys us → RpK K G (xs ++ ys) (vs ++ us)
  | _, _, _, _, .nil, s => s
  | _, _, _, _, .cons h r, s => .cons h (r.app s)
theorem RpK.repl {k : Key} {y : D} {u : V} (hy : Rp K G y u) : ∀ {xs : List (Key × D)} {vs : List (Key × V)}, RpK K G xs vs → RpK K G (xs.map fun kv => if kv.1 = k then (kv.1, y) else kv) (vs.map fun kv => if kv.1 = k then (kv.1, u) else kv)
  | _, _, .nil => .nil
  | _, _, .cons (f := f) h r => by
    rw [List.map_cons, List.map_cons]
    by_cases e : f = k
    · simp only [e, if_true]; exact .cons hy (r.repl hy)
    · simp only [e, if_false]; exact .cons h (r.repl hy)
theorem RpK.put {k : Key} {y : D} {u : V} {xs : List (Key × D)} {vs : List (Key × V)} (r : RpK K G xs vs) (hy : Rp K G y u) : RpK K G (putKD xs k y) (putK vs k u) := by
  unfold putKD putK
  rw [r.any]
  split
  · exact r.repl hy
  · exact r.app (.cons hy .nil)
variable {te tk tv td : TE} {x y : D} {k : Key} {kvs : List (Key × D)}
/-- x is data that is a dict, changed no more -/
def IsDK (x : D) (kvs : List (Key × D)) : Prop := x = .dK kvs ∨ x = .dP kvs
theorem IsDK.rp {x : D} {kvs : List (Key × D)} {v : V} (h : IsDK x kvs) (r : Rp K G x v) : ∃ (a : Addr) (gs : List (Key × V)), v = .ref a ∧ Rd G a (.dK gs) ∧ RpK K G kvs gs := by
  rcases h with rfl | rfl
  · cases r with
    | dK hp rk => exact ⟨_, _, rfl, .inl hp, rk⟩
  · cases r with
    | dP hp rk => exact ⟨_, _, rfl, .inr ⟨_, hp⟩, rk⟩
/-- the pairs of a dict written out -/
def EP2 (K : PySem.W.Frag) (trs : List (TE × TE)) (δ : List S) (kvs : List (Key × D)) : Prop := ∀ (He Ge H : Hp) (τo : St) (τs : List S) (σ : St), τo.length = τs.length → OK K He Ge H (τo ++ σ) (τs ++ δ) →
  ∀ Q : List (V × V) → Hp → Prop, (∀ gs H' G', OKG K He Ge H' G' (τo ++ σ) (τs ++ δ) → RpK K G' kvs gs → Q (gs.map fun kv => (kV kv.1, kv.2)) H') → tPairs trs σ H Q
theorem ep_nil : EP2 K [] δ [] := fun He Ge H τo τs σ hl ⟨G, ok⟩ Q q => q [] H G ok .nil
theorem ep_cons {trs : List (TE × TE)} (h1 : EV K tk δ (.d x)) (hk : keyD x = some k) (h2 : EV K tv δ (.d y)) (h3 : EP2 K trs δ kvs) : EP2 K ((tk, tv) :: trs) δ ((k, y) :: kvs) := by
  intro He Ge H τo τs σ hl ok Q q
  show tk σ H fun x4 H1 => tv σ H1 fun y4 H2 => tPairs trs σ H2 fun ps H3 => Q ((x4, y4) :: ps) H3
  refine h1 He Ge H τo τs σ hl ok _ fun v H1 ok1 => ?_
  refine h2 He Ge H1 (some v :: τo) (.d x :: τs) σ (by simp [hl]) ok1 _ fun u H2 ok2 => ?_
  refine h3 He Ge H2 (some u :: some v :: τo) (.d y :: .d x :: τs) σ (by simp [hl]) ok2 _ fun gs H3 G ok3 r => ?_
  obtain ⟨_, e1, r1⟩ := ok3.top
  obtain ⟨_, e2, r2⟩ := ok3.pop.top
  cases e1; cases e2
  have := q ((k, u) :: gs) H3 G ok3.pop.pop (.cons r1 r)
  rw [List.map_cons] at this
  rw [keyD_rp hk r2]
  exact this
variable {W : WX} {N B Ct : List S → Prop} {Rt : S → List S → Prop} {Xc : List S → Addr → List (Str × D) → Prop}
end
section
variable {Hy : PySem.W.Frag → Prop}
/-- slot i a dict of one's own -/
def okD : List S → Nat → M (List (Key × D))
  | .okd kvs :: _, 0 => .ok kvs
  | _ :: l, i + 1 => okD l i
  | _, _ => .no
@[simp] theorem okD_0 {l : List S} {kvs : List (Key × D)} : okD (.okd kvs :: l) 0 = .ok kvs := (rfl)
theorem okD_s {l : List S} {s : S} {i : Nat} : okD (s :: l) (i + 1) = okD l i := by cases s <;> rfl
structure SP (Hy : PySem.W.Frag → Prop) where
  t : PySem.W.Frag → WX → List (TE × TE)
  f : List S → M (List (Key × D))
  ok : ∀ K, Hy K → ∀ W δ kvs, f δ = .ok kvs → EP2 K (t K W) δ kvs
def SP.nil : SP Hy := ⟨fun _ _ => [], fun _ => .ok [], fun K hk W δ kvs h => by cases h; exact ep_nil⟩
def SP.cons (a b : SE Hy) (r : SP Hy) : SP Hy where
  t K W := (a.t K W, b.t K W) :: r.t K W
  f δ := (a.fd δ).bin fun x => (M.of (keyD x)).bin fun k => (b.fd δ).bin fun y => (r.f δ).bin fun l => .ok ((k, y) :: l)
  ok K hk W δ kvs h := by
    cases h1 : a.fd δ with
    | ok x =>
      cases h2 : keyD x with
      | some k =>
        cases h3 : b.fd δ with
        | ok y =>
          cases h4 : r.f δ with
          | ok l =>
            simp only [h1, M.ok_bin, h2, M.of_some, h3, h4] at h
            cases h
            exact ep_cons (a.okD hk h1) h2 (b.okD hk h3) (r.ok K hk W δ l h4)
          | _ => simp only [h1, M.ok_bin, h2, M.of_some, h3, h4] at h; cases h
        | _ => simp only [h1, M.ok_bin, h2, M.of_some, h3] at h; cases h
      | none => simp only [h1, M.ok_bin, h2] at h; cases h
    | _ => simp only [h1] at h; cases h
variable {δ : List S}
@[simp] theorem okD_s1 {s : S} {l : List S} {i : Nat} : okD (s :: l) (i + 1) = okD l i := okD_s
@[simp] theorem SP.nil_f : (SP.nil : SP Hy).f δ = .ok [] := (rfl)
@[simp] theorem SP.cons_f (a b : SE Hy) (r : SP Hy) : (SP.cons a b r).f δ = (a.fd δ).bin fun x => (M.of (keyD x)).bin fun k => (b.fd δ).bin fun y => (r.f δ).bin fun l => .ok ((k, y) :: l) := (rfl)
@[simp] theorem keyD_int {i : Int} : keyD (.int i) = some (.inl i) := (rfl)
@[simp] theorem keyD_str {x : Str} : keyD (.str x) = some (.inr x) := (rfl)
@[simp] theorem toD_okdS {kvs : List (Key × D)} : toD (.okd kvs) = .ok (.dK kvs) := (rfl)
@[simp] theorem isi_exc_tup {T : Tab} {C : Addr} {cs : List D} (h : C ∈ T.exc) : isiF T [.exc C [], .tup cs] = (anyI T (.inl C) cs).map fun b => .d (.bl b) := by
  have e : tyOf T (.exc C []) = some (.inl C) := if_pos h
  show (tyOf T (.exc C [])).bind (fun t => (anyI T t cs).map fun b => S.d (.bl b)) = _
  rw [e]; rfl
@[simp] theorem anyI_nil {T : Tab} {t : Addr ⊕ String} : anyI T t [] = some false := (rfl)
@[simp] theorem anyI_cls {T : Tab} {C A : Addr} {r : List D} : anyI T (.inl C) (.cls A :: r) = match find2 T.cc C A with | some true => if r.all isCls = true then some true else none | some false => anyI T (.inl C) r | none => none := (rfl)
end
end Far
namespace Far
open PySem L2
section
variable {K : PySem.W.Frag} {δ : List S}
end
section
variable {Hy : PySem.W.Frag → Prop}
end
section
variable {P : Program} {w : World} {K : PySem.W.Frag} {mg : Str → Option Value} {base : Heap} {k : Nat}
end
end Far
namespace Far
open PySem L2
section
variable {K : PySem.W.Frag} {δ : List S} {te : TE} {xs : List D} {tl th : TO} {lo hi : Option Int}
end
section
variable {Hy : PySem.W.Frag → Prop}
end
end Far
namespace Far
open PySem L2
section
variable {K : PySem.W.Frag} {δ : List S} {te : TE} {tr : TA} {x : D} {A xs B : List D}
def EAO (K : PySem.W.Frag) (ta : TA) (δ : List S) (A xs B : List D) : Prop := ∀ (He Ge H : Hp) (τo : L2.St) (τs : List S) (σ : L2.St), τo.length = τs.length → OK K He Ge H (τo ++ σ) (τs ++ δ) →
  ∀ Q : List V → Hp → Prop, (∀ (vs us ws : List V) (q : Addr) (H' G' : Hp), OKG K He Ge H' G' (τo ++ σ) (τs ++ δ) → RpL K G' A vs → RpL K G' B ws → He q = none → G' q = none → H' q = some (.lst us) → RpL K G' xs us → Q (vs ++ .ref q :: ws) H') → ta σ H Q
theorem eao_here (h : EV K te δ (.own xs)) (hr : EA K tr δ B) : EAO K (tCons te tr) δ [] xs B := by
  intro He Ge H τo τs σ hl ok Q q
  refine h He Ge H τo τs σ hl ok _ fun v H1 ok1 => ?_
  refine hr He Ge H1 (some v :: τo) (.own xs :: τs) σ (by simp [hl]) ok1 _ fun ws H2 G2 ok2 rw_ => ?_
  obtain ⟨p, us, e, h1, h2, h3, r⟩ := ok2.top
  cases e
  exact q [] us ws p H2 G2 ok2.pop .nil rw_ h1 h2 h3 r
theorem eao_cons (h : EV K te δ (.d x)) (hr : EAO K tr δ A xs B) : EAO K (tCons te tr) δ (x :: A) xs B := by
  intro He Ge H τo τs σ hl ok Q q
  refine h He Ge H τo τs σ hl ok _ fun v H1 ok1 => ?_
  refine hr He Ge H1 (some v :: τo) (.d x :: τs) σ (by simp [hl]) ok1 _ fun vs us ws p H2 G2 ok2 r1 r2 h1 h2 h3 r => ?_
  obtain ⟨_, e, rx⟩ := ok2.top
  cases e
  exact q (v :: vs) us ws p H2 G2 ok2.pop (.cons rx r1) r2 h1 h2 h3 r
/-- names that take such a tuple apart -/
def ETo (K : PySem.W.Frag) (gs : TGs) (δ : List S) (A xs B : List D) (δ' : List S) : Prop := ∀ (He Ge H G : Hp) (σ : L2.St) (vs us ws : List V) (q : Addr), OKG K He Ge H G σ δ → RpL K G A vs → RpL K G B ws → He q = none → G q = none → H q = some (.lst us) → RpL K G xs us →
  (∀ (j : Nat) (t : S), δ[j]? = some t → owned t = true → σ[j]? ≠ some (some (.ref q))) → ∀ Q : L2.St → Hp → Prop, (∀ σ', OKG K He Ge H G σ' δ' → Q σ' H) → gs (vs ++ .ref q :: ws) σ H Q
theorem own_keep {i q : Nat} {s : S} {o : Option V} {σ : L2.St} (hk : ∀ (j : Nat) (t : S), δ[j]? = some t → owned t = true → σ[j]? ≠ some (some (.ref q))) (hs : owned s = false) : ∀ (j : Nat) (t : S), (δ.set i s)[j]? = some t → owned t = true → (σ.set i o)[j]? ≠ some (some (.ref q)) := fun j t e ho => by
  by_cases z : i = j
  · subst z
    have hl : i < δ.length := by
      have := (List.getElem?_eq_some_iff.mp e).1
      rwa [List.length_set] at this
    rw [List.getElem?_set_self hl] at e; cases e; rw [hs] at ho; cases ho
  · rw [List.getElem?_set_ne z] at e ⊢
    exact hk j t e ho
theorem eto_here {i : Nat} {gs : TGs} {δ' : List S} (hi : i < δ.length) (h : ETs K gs (δ.set i (.own xs)) B δ') : ETo K (gCons (gName i) gs) δ [] xs B δ' := by
  intro He Ge H G σ vs us ws q ok r1 r2 h1 h2 h3 r3 hk Q k
  cases r1
  have ok1 : OKG K He Ge H G (some (.ref q) :: σ) (.own xs :: δ) := ok.push ⟨q, us, rfl, h1, h2, h3, r3⟩ fun _ j t p e hj ho eσ => by
    cases e; exact hk j t hj ho eσ
  exact ⟨_, _, rfl, ets_run h He Ge H G [] [] _ ws rfl (ok1.store hi) r2 Q k⟩
theorem eto_cons {i : Nat} {gs : TGs} {δ' : List S} (hi : i < δ.length) (h : ETo K gs (δ.set i (.d x)) A xs B δ') : ETo K (gCons (gName i) gs) δ (x :: A) xs B δ' := by
  intro He Ge H G σ vs us ws q ok r1 r2 h1 h2 h3 r3 hk Q k
  cases r1 with
  | cons rx r1 =>
    have ok1 := ok.pushD rx
    exact ⟨_, _, rfl, h He Ge H G _ _ us ws q (ok1.store hi) r1 r2 h1 h2 h3 r3 (own_keep hk rfl) Q k⟩
end
section
variable {Hy : PySem.W.Frag → Prop}
variable (Hy) in
structure SAo where
  t : PySem.W.Frag → WX → TA
  f : List S → Option (List D × List D × List D)
  ok : ∀ K, Hy K → ∀ W δ A xs B, f δ = some (A, xs, B) → EAO K (t K W) δ A xs B
def SAo.here (e : SE Hy) (r : SA Hy) : SAo Hy where
  t K W := tCons (e.t K W) (r.t K W)
  f δ := match e.f δ, r.f δ with | .ok (.own xs), .ok B => some ([], xs, B) | _, _ => none
  ok K hk W δ A xs B h := by
    cases h1 : e.f δ with
    | ok s =>
      cases s with
      | own ys =>
        cases h2 : r.f δ with
        | ok zs =>
          simp only [h1, h2] at h
          cases h
          exact eao_here (e.okS hk h1) (r.okA hk h2)
        | no => simp only [h1, h2] at h; cases h
        | ex c fs => simp only [h1, h2] at h; cases h
      | _ => simp only [h1] at h; cases h
    | no => simp only [h1] at h; cases h
    | ex c fs => simp only [h1] at h; cases h
def SAo.cons (e : SE Hy) (r : SAo Hy) : SAo Hy where
  t K W := tCons (e.t K W) (r.t K W)
  f δ := match e.fd δ, r.f δ with | .ok x, some (A, xs, B) => some (x :: A, xs, B) | _, _ => none
  ok K hk W δ A xs B h := by
    cases h1 : e.fd δ with
    | ok s =>
      cases h2 : r.f δ with
      | some z =>
        obtain ⟨A', xs', B'⟩ := z
        simp only [h1, h2] at h
        cases h
        exact eao_cons (e.okD hk h1) (r.ok K hk W δ _ _ _ h2)
      | none => simp only [h1, h2] at h; cases h
    | no => simp only [h1] at h; cases h
    | ex c fs => simp only [h1] at h; cases h
variable (Hy) in
structure SGo where
  t : PySem.W.Frag → WX → TGs
  f : List S → List D → List D → List D → Option (List S)
  ok : ∀ K, Hy K → ∀ W δ A xs B δ', f δ A xs B = some δ' → ETo K (t K W) δ A xs B δ'
def SGo.here (i : Nat) (r : SGs Hy) : SGo Hy where
  t K W := gCons (gName i) (r.t K W)
  f δ A xs B := match A with | [] => (if i < δ.length then r.f (δ.set i (.own xs)) B else none) | _ => none
  ok K hk W δ A xs B δ' h := by
    cases A with
    | nil =>
      by_cases z : i < δ.length
      · simp only [if_pos z] at h
        have q := r.ok K hk W (δ.set i (.own xs)) B
        rw [h] at q
        exact eto_here z q
      · simp only [if_neg z] at h; cases h
    | cons a A => cases h
def SGo.cons (i : Nat) (r : SGo Hy) : SGo Hy where
  t K W := gCons (gName i) (r.t K W)
  f δ A xs B := match A with | x :: A => (if i < δ.length then r.f (δ.set i (.d x)) A xs B else none) | [] => none
  ok K hk W δ A xs B δ' h := by
    cases A with
    | nil => cases h
    | cons a A =>
      by_cases z : i < δ.length
      · simp only [if_pos z] at h
        exact eto_cons z (r.ok K hk W _ _ _ _ _ h)
      · simp only [if_neg z] at h; cases h
variable {δ : List S}
@[simp] theorem SAo.here_f (e : SE Hy) (r : SA Hy) : (SAo.here e r).f δ = match e.f δ, r.f δ with | .ok (.own xs), .ok B => some ([], xs, B) | _, _ => none := (rfl)
@[simp] theorem SAo.cons_f (e : SE Hy) (r : SAo Hy) : (SAo.cons e r).f δ = match e.fd δ, r.f δ with | .ok x, some (A, xs, B) => some (x :: A, xs, B) | _, _ => none := (rfl)
@[simp] theorem SGo.here_f (i : Nat) (r : SGs Hy) {xs B : List D} : (SGo.here i r).f δ [] xs B = if i < δ.length then r.f (δ.set i (.own xs)) B else none := (rfl)
@[simp] theorem SGo.cons_f (i : Nat) (r : SGo Hy) {x : D} {A xs B : List D} : (SGo.cons i r).f δ (x :: A) xs B = if i < δ.length then r.f (δ.set i (.d x)) A xs B else none := (rfl)
@[simp] theorem retS_ot' {A xs B : List D} : retS (.ot A xs B) = .no := (rfl)
end
end Far
namespace Far
open PySem L2
section
variable {K : PySem.W.Frag} {δ : List S} {te : TE} {x : D} {xs : List D} {i j : Nat} {m n : Int} {W : WX} {N B Ct : List S → Prop} {Rt : S → List S → Prop} {Xc : List S → Addr → List (Str × D) → Prop}
end
section
variable {K : PySem.W.Frag} {δ : List S} {xs : List D} {i : Nat}
end
section
variable {Hy : PySem.W.Frag → Prop}
end
end Far
namespace Far
open PySem PySem.Spec PyProof.Rows L2
/-- from H to H3 a lambda's code object, at c, is found in the table at P, or laid and put there -/
def Made (P : Addr) (q : Str) (ps : Array Value) (H H3 : Hp) (c : Addr) : Prop :=
  (H3 = H ∧ ∃ at_, codeAmong at_ ps.toList = some (.ref c)) ∨
    ∃ l k : Int, H c = none ∧ H3 = upd (upd H P (.tbl (ps ++ #[rawInt l, rawInt k, .ref c]))) c (LamX.CodeO c q)
section
variable {X : Cx} {pins : List (Addr × Obj)} {σ : L2.St} {H : Hp} {s : Shared}
end
section
variable {P : Program} {w : World} {K : PySem.W.Frag} {mg : Str → Option Value} {base : Heap} {k : Nat}
/-- what a base that holds a lambda is good for -/
structure HeldB (P : Program) (w : World) (K : PySem.W.Frag) (mg : Str → Option Value) (base : Heap) (k : Nat) (f : Addr) (sp : Sp) : Prop where
  ex : ∃ (fd : FuncData) (ps : List Str) (o : Obj), base.get? f = some o ∧ o.data = .func fd ∧ FnOk P w K mg base CX0 k f fd ps sp ∧ ∀ (s : Shared) (us : List Value), us.length = ps.length → BindsTo s fd ⟨us, []⟩ (ps.zip us)
end
section
variable {X : Cx} {pins : List (Addr × Obj)} {σ : L2.St} {H : Hp} {s : Shared}
end
section
variable {X : Cx} {CX : CXT} {k : Nat} {g c P : Addr} {fdg : FuncData} {psg : List Str} {sp : Addr → Addr → List V → Sp} {Ec : L2.St → XK} {x a : Str} {cn : List Str} {ci : List Nat} {p lp pos : Pos} {e1 e2 : Expr} {t1 t2 : TE} {params : Arguments} {body : Expr} {scope : Scope}
end
section
variable {X : Cx} {k i : Nat} {x : Str} {p pos : Pos} {e : Expr} {es : List Expr} {t : TA}
end
end Far
namespace Far
open PySem L2
/-- a lambda that one was handed: where it lies, its code object, what it captured, what it tells -/
structure LamI where
  f : Addr
  c : Addr
  q : Str
  cvs : List V
  caps : List D
  F : List D → M S
abbrev LamI.d (L : LamI) : D := .lam L.f L.c L.q L.cvs L.caps
section
variable {K : PySem.W.Frag} {δ : List S}
end
section
variable {Hy : PySem.W.Frag → Prop}
end
theorem among_raw {at_ : Pos} {a b : Int} {c cv : Value} {l : List Value} (h : TriplesOk l) (e : codeAmong at_ (l ++ [rawInt a, rawInt b, c]) = some cv) : codeAmong at_ l = some cv ∨ cv = c := by
  fun_induction TriplesOk l with
  | case3 l n1 n2 => cases h
  | case1 =>
    right
    rw [List.nil_append] at e
    unfold rawInt codeAmong at e
    split at e
    · exact (Option.some.inj e).symm
    · unfold codeAmong at e; cases e
  | case2 i t j u x r ih =>
    rw [List.cons_append, List.cons_append, List.cons_append] at e
    unfold codeAmong at e ⊢
    split at e
    · rename_i z; rw [if_pos z]; exact .inl e
    · rename_i z; rw [if_neg z]; exact ih h e
section
variable {K : PySem.W.Frag} {He Ge H G : Hp} {σ : L2.St} {δ : List S}
theorem Ex.tabGrow {H : Hp} {P : Addr} {ps ps2 : Array Value} (h : H P = some (.tbl ps)) : Ex H (upd H P (.tbl ps2)) := ⟨fun a o e n => by
  rw [upd_ne (fun z => by rw [z, h] at e; cases e; cases n)]; exact e, fun a p e => by
  by_cases z : a = P
  · subst z; exact ⟨ps2, upd_same⟩
  · exact ⟨p, by rw [upd_ne z]; exact e⟩⟩
theorem OKG.made {P c : Addr} {q : Str} {ps : Array Value} {H3 : Hp} (ok : OKG K He Ge H G σ δ) (hm : (P, q) ∈ tabsK K) (hu : ∀ p ∈ tabsK K, p.1 = P → p.2 = q) (hP : H P = some (.tbl ps)) (m : Made P q ps H H3 c) :
    ∃ G3, OKG K He Ge H3 G3 σ δ ∧ Ex G G3 ∧ G3 c = some (LamX.CodeO c q) := by
  rcases m with ⟨rfl, at_, ha⟩ | ⟨l, k, hc, rfl⟩
  · obtain ⟨ps2, h1, _, h3⟩ := ok.nc.tb _ hm
    rw [show H3 (P, q).1 = H3 P from rfl, hP] at h1
    cases h1
    obtain ⟨b, e, g⟩ := h3 at_ _ ha
    cases e
    exact ⟨G, ok, .refl G, g⟩
  · have gc : G c = none := ok.gh.none hc
    have nP : P ≠ c := ne_of_none hP hc
    have n2 : upd H P (.tbl (ps ++ #[rawInt l, rawInt k, .ref c])) c = none := by rw [upd_ne (Ne.symm nP)]; exact hc
    have e1 := Ex.tabGrow (ps2 := ps ++ #[rawInt l, rawInt k, .ref c]) hP
    refine ⟨upd G c (LamX.CodeO c q), ok.grow (e1.trans (.new n2)) (.new gc) (ok.gh.trans e1).both ⟨fun b b1 b2 => ?_, ok.nc.tb, fun p hp => ?_⟩, .new gc, upd_same⟩
    · rw [upd_ne (fun z => b1 (by rw [z]; exact hc))]; exact b2
    · obtain ⟨ps2, h1, h2, h3⟩ := ok.nc.tb p hp
      have np : p.1 ≠ c := ne_of_none h1 hc
      by_cases z : p.1 = P
      · have eq := hu p hp z
        rw [z, hP] at h1
        cases h1
        refine ⟨ps ++ #[rawInt l, rawInt k, .ref c], by rw [upd_ne np, z, upd_same], ?_, fun at_ cv ha => ?_⟩
        · rw [show (ps ++ #[rawInt l, rawInt k, .ref c]).toList = ps.toList ++ [rawInt l, rawInt k, .ref c] by simp]
          exact PySem.TriplesOk_snoc _ _ _ _ h2
        · rw [show (ps ++ #[rawInt l, rawInt k, .ref c]).toList = ps.toList ++ [rawInt l, rawInt k, .ref c] by simp] at ha
          rcases among_raw h2 ha with w | w
          · obtain ⟨b, e3, g⟩ := h3 at_ cv w
            exact ⟨b, e3, by rw [upd_ne (ne_of_none g gc)]; exact g⟩
          · exact ⟨c, w, by rw [upd_same, eq]⟩
      · refine ⟨ps2, by rw [upd_ne np, upd_ne z]; exact h1, h2, fun at_ cv ha => ?_⟩
        obtain ⟨b, e3, g⟩ := h3 at_ cv ha
        exact ⟨b, e3, by rw [upd_ne (ne_of_none g gc)]; exact g⟩
end
section
variable {K : PySem.W.Frag} {δ : List S} {t1 t2 : TE} {x1 x2 : D} {s : S} {W : WX} {c : Addr} {cf : List (Str × D)}
end
section
variable {Hy : PySem.W.Frag → Prop}
end
end Far
namespace Far
open PySem PySem.Spec PyProof.Rows L2
section
variable {P : Program} {w : World} {K : PySem.W.Frag} {mg : Str → Option Value} {base : Heap}
theorem HeldB.mono {j k : Nat} {f : Addr} {sp : Sp} (h : HeldB P w K mg base j f sp) (l : j ≤ k) : HeldB P w K mg base k f sp :=
  ⟨let ⟨fd, ps, o, h1, h2, h3, h4⟩ := h.ex; ⟨fd, ps, o, h1, h2, h3.mono l, h4⟩⟩
end
def noTab (ts : List Addr) (K : PySem.W.Frag) : PySem.W.Frag := K.filter fun q => !ts.contains q.1
end Far
namespace Far
open PySem L2
def keyO : D → Option KO
  | .non => some none | .int i => some (some i) | _ => none
section
variable {K : PySem.W.Frag} {H G : Hp} {δ : List S}
theorem keyO_rp {x : D} {v : V} {k : KO} (h : keyO x = some k) (r : Rp K G x v) : v = vO k := by
  cases r <;> simp only [keyO] at h <;> (first | (cases h; rfl) | (cases h; done))
variable {te tk tv td : TE} {x y : D} {k : KO} {kvs : List (KO × KO)}
/-- the pairs of a dict written out -/
def EPO (K : PySem.W.Frag) (trs : List (TE × TE)) (δ : List S) (kvs : List (KO × KO)) : Prop := ∀ (He Ge H : Hp) (τo : St) (τs : List S) (σ : St), τo.length = τs.length → OK K He Ge H (τo ++ σ) (τs ++ δ) →
  ∀ Q : List (V × V) → Hp → Prop, (∀ H' G', OKG K He Ge H' G' (τo ++ σ) (τs ++ δ) → Q (kvs.map fun kv => (vO kv.1, vO kv.2)) H') → tPairs trs σ H Q
theorem epo_nil : EPO K [] δ [] := fun He Ge H τo τs σ hl ⟨G, ok⟩ Q q => q H G ok
theorem epo_cons {trs : List (TE × TE)} {u : KO} (h1 : EV K tk δ (.d x)) (hk : keyO x = some k) (h2 : EV K tv δ (.d y)) (hu : keyO y = some u) (h3 : EPO K trs δ kvs) : EPO K ((tk, tv) :: trs) δ ((k, u) :: kvs) := by
  intro He Ge H τo τs σ hl ok Q q
  show tk σ H fun x4 H1 => tv σ H1 fun y4 H2 => tPairs trs σ H2 fun ps H3 => Q ((x4, y4) :: ps) H3
  refine h1 He Ge H τo τs σ hl ok _ fun v H1 ok1 => ?_
  refine h2 He Ge H1 (some v :: τo) (.d x :: τs) σ (by simp [hl]) ok1 _ fun w H2 ok2 => ?_
  refine h3 He Ge H2 (some w :: some v :: τo) (.d y :: .d x :: τs) σ (by simp [hl]) ok2 _ fun H3 G ok3 => ?_
  obtain ⟨_, e1, r1⟩ := ok3.top
  obtain ⟨_, e2, r2⟩ := ok3.pop.top
  cases e1; cases e2
  rw [keyO_rp hu r1, keyO_rp hk r2]
  exact q H3 G ok3.pop.pop
variable {W : WX} {N B Ct : List S → Prop} {Rt : S → List S → Prop} {Xc : List S → Addr → List (Str × D) → Prop}
end
section
variable {Hy : PySem.W.Frag → Prop}
/-- slot i such a dict of one's own -/
def okO : List S → Nat → M (List (KO × KO))
  | .oko kvs :: _, 0 => .ok kvs
  | _ :: l, i + 1 => okO l i
  | _, _ => .no
@[simp] theorem okO_0 {l : List S} {kvs : List (KO × KO)} : okO (.oko kvs :: l) 0 = .ok kvs := (rfl)
theorem okO_s {l : List S} {s : S} {i : Nat} : okO (s :: l) (i + 1) = okO l i := by cases s <;> rfl
@[simp] theorem okO_s1 {s : S} {l : List S} {i : Nat} : okO (s :: l) (i + 1) = okO l i := okO_s
structure SPo (Hy : PySem.W.Frag → Prop) where
  t : PySem.W.Frag → WX → List (TE × TE)
  f : List S → M (List (KO × KO))
  ok : ∀ K, Hy K → ∀ W δ kvs, f δ = .ok kvs → EPO K (t K W) δ kvs
def SPo.nil : SPo Hy := ⟨fun _ _ => [], fun _ => .ok [], fun K hk W δ kvs h => by cases h; exact epo_nil⟩
def SPo.cons (a b : SE Hy) (r : SPo Hy) : SPo Hy where
  t K W := (a.t K W, b.t K W) :: r.t K W
  f δ := (a.fd δ).bin fun x => (M.of (keyO x)).bin fun k => (b.fd δ).bin fun y => (M.of (keyO y)).bin fun u => (r.f δ).bin fun l => .ok ((k, u) :: l)
  ok K hk W δ kvs h := by
    cases h1 : a.fd δ with
    | ok x =>
      cases h2 : keyO x with
      | some k =>
        cases h3 : b.fd δ with
        | ok y =>
          cases h5 : keyO y with
          | some u =>
            cases h4 : r.f δ with
            | ok l =>
              simp only [h1, M.ok_bin, h2, M.of_some, h3, h5, h4] at h
              cases h
              exact epo_cons (a.okD hk h1) h2 (b.okD hk h3) h5 (r.ok K hk W δ l h4)
            | _ => simp only [h1, M.ok_bin, h2, M.of_some, h3, h5, h4] at h; cases h
          | none => simp only [h1, M.ok_bin, h2, M.of_some, h3, h5] at h; cases h
        | _ => simp only [h1, M.ok_bin, h2, M.of_some, h3] at h; cases h
      | none => simp only [h1, M.ok_bin, h2] at h; cases h
    | _ => simp only [h1] at h; cases h
variable {δ : List S}
@[simp] theorem SPo.nil_f : (SPo.nil : SPo Hy).f δ = .ok [] := (rfl)
@[simp] theorem SPo.cons_f (a b : SE Hy) (r : SPo Hy) : (SPo.cons a b r).f δ = (a.fd δ).bin fun x => (M.of (keyO x)).bin fun k => (b.fd δ).bin fun y => (M.of (keyO y)).bin fun u => (r.f δ).bin fun l => .ok ((k, u) :: l) := (rfl)
@[simp] theorem keyO_non : keyO .non = some none := (rfl)
@[simp] theorem keyO_int {i : Int} : keyO (.int i) = some (some i) := (rfl)
@[simp] theorem toD_okoS {kvs : List (KO × KO)} : toD (.oko kvs) = .ok (.dO kvs) := (rfl)
end
end Far
namespace Far
open PySem L2 PySem.Spec PyProof.Rows
section
variable {X : Cx}
end
section
variable {Hy : PySem.W.Frag → Prop}
end
section
end
end Far
namespace Far
open PySem L2 PySem.Spec PyProof.Rows
section
variable {Hy : PySem.W.Frag → Prop} {δ : List S}
end
end Far
namespace PySem
open Sem (wp)
open AutoSeq1 (wpAny_loadPart')
section
variable {prog : Program} {w : World} {A : Around} {E : Value → Shared → Prop} {s : Shared}
end
end PySem
namespace Far
open PySem L2 PySem.Spec PyProof.Rows
section
variable {K : PySem.W.Frag} {δ : List S}
end
section
variable {Hy : PySem.W.Frag → Prop}
end
end Far
namespace Far
open PySem L2
/-- what may leave an expression to which objects of the classes Cs are lent; lists, where none of one's own is lent -/
def rfo (Cs : List Addr) (ll : Bool) : D → Bool
  | .non => true | .bl _ => true | .int _ => true | .str _ => true | .ty _ => true | .cls _ => true
  | .tup xs => rfoL xs | .lst xs => ll && rfoL xs | .ins C fs => !(Cs.contains C) && rfoF fs
  | _ => false
where
  rfoL : List D → Bool
    | [] => true
    | x :: r => rfo Cs ll x && rfoL r
  rfoF : List (Str × D) → Bool
    | [] => true
    | (_, x) :: r => rfo Cs ll x && rfoF r
section
variable {Cs : List Addr} {ll : Bool}
theorem rfoL_all : ∀ xs : List D, rfo.rfoL Cs ll xs = xs.all (rfo Cs ll)
  | [] => by simp [rfo.rfoL]
  | x :: r => by rw [rfo.rfoL, List.all_cons, rfoL_all r]
theorem rfoF_all : ∀ fs : List (Str × D), rfo.rfoF Cs ll fs = fs.all fun p => rfo Cs ll p.2
  | [] => by simp [rfo.rfoF]
  | (f, x) :: r => by rw [rfo.rfoF, List.all_cons, rfoF_all r]
variable {K : PySem.W.Frag} {G G2 : Hp}
mutual
theorem Rp.trimO (hG : ∀ a o, G a = some o → ((∃ us, o = .lst us) → ll = true) → (∀ us, o ≠ .dK us) → (∀ C dx gs, C ∈ Cs → o ≠ .ins C dx gs) → ntb o = true → G2 a = some o) : ∀ {x : D} {v : V}, rfo Cs ll x = true → Rp K G x v → Rp K G2 x v
  | _, _, _, .non => .non
  | _, _, _, .bl => .bl
  | _, _, _, .int => .int
  | _, _, _, .str => .str
  | _, _, _, .ty => .ty
  | _, _, _, .cls => .cls
  | _, _, l, .tup h r => .tup (h.imp (fun ⟨o, h1, h2⟩ => ⟨o, hG _ _ h1 (fun ⟨us, z⟩ => by cases z) (fun us z => by cases z) (fun _ _ _ _ z => by cases z) rfl, h2⟩) id) (RpL.trimO hG (by simpa [rfo] using l) r)
  | _, _, l, .utp h r => by simp [rfo] at l
  | _, _, l, .lst h r => by
    rw [rfo, Bool.and_eq_true] at l
    exact .lst (hG _ _ h (fun _ => l.1) (fun us z => by cases z) (fun _ _ _ _ z => by cases z) rfl) (RpL.trimO hG l.2 r)
  | _, _, l, .scr h r => by simp [rfo] at l
  | _, _, l, .ins h r => by
    rw [rfo, Bool.and_eq_true] at l
    refine .ins (hG _ _ h (fun ⟨us, z⟩ => by cases z) (fun us z => by cases z) (fun C dx gs hC z => ?_) rfl) (RpF.trimO hG l.2 r)
    cases z
    have := l.1
    simp at this
    exact this hC
  | _, _, l, .dK h r => by simp [rfo] at l
  | _, _, l, .dP h r => by simp [rfo] at l
  | _, _, l, .dO h => by simp [rfo] at l
  | _, _, l, .exc0 h => by simp [rfo] at l
  | _, _, l, .exc1 h h2 r n => by simp [rfo] at l
  | _, _, l, .exo h => by simp [rfo] at l
  | _, _, l, .lam h r => by simp [rfo] at l
theorem RpL.trimO (hG : ∀ a o, G a = some o → ((∃ us, o = .lst us) → ll = true) → (∀ us, o ≠ .dK us) → (∀ C dx gs, C ∈ Cs → o ≠ .ins C dx gs) → ntb o = true → G2 a = some o) : ∀ {xs : List D} {vs : List V}, rfo.rfoL Cs ll xs = true → RpL K G xs vs → RpL K G2 xs vs
  | _, _, _, .nil => .nil
  | _, _, l, .cons h r => by
    rw [rfo.rfoL, Bool.and_eq_true] at l
    exact .cons (Rp.trimO hG l.1 h) (RpL.trimO hG l.2 r)
theorem RpF.trimO (hG : ∀ a o, G a = some o → ((∃ us, o = .lst us) → ll = true) → (∀ us, o ≠ .dK us) → (∀ C dx gs, C ∈ Cs → o ≠ .ins C dx gs) → ntb o = true → G2 a = some o) : ∀ {xs : List (Str × D)} {vs : List (Str × V)}, rfo.rfoF Cs ll xs = true → RpF K G xs vs → RpF K G2 xs vs
  | _, _, _, .nil => .nil
  | _, _, l, .cons h r => by
    rw [rfo.rfoF, Bool.and_eq_true] at l
    exact .cons (Rp.trimO hG l.1 h) (RpF.trimO hG l.2 r)
end
end
section
variable {K : PySem.W.Frag} {δ : List S} {te : TE} {tt : TT} {s : S} {b : Bool} {Cs : List Addr} {ll : Bool} {c : Addr} {cf : List (Str × D)} {E : L2.St → XK}
end
end Far
namespace Far
open PySem L2
section
variable {K : PySem.W.Frag} {He Ge H G : Hp} {σ : L2.St} {δ : List S}
/-- what a method promises that may change its object -/
def spM (K : PySem.W.Frag) (C : Addr) (R : List (Str × D) → List D → Out → List (Str × D) → Prop) : Sp := fun vs H Q E => ∃ (G : Hp) (x dx : Addr) (us : List V) (fs : List (Str × D)) (xs : List D) (out : Out) (fs2 : List (Str × D)), vs = .ref x :: us ∧ H dx = some (.own x) ∧ OKG K (hid H x dx) G H G [some (.ref x)] [.ob (some x) C fs] ∧ RpL K G xs us ∧ R fs xs out fs2 ∧
  (∀ v s G' H', out = .ret s → OKG K (hid H x dx) G H' G' [some v, some (.ref x)] [s, .ob (some x) C fs2] → Q v H') ∧
  (∀ c cf cls d G' H', out = .exc c cf → OKG K (hid H x dx) G H' G' [] [] → XOk K G' H' c cf cls d → E cls d H')
theorem OKG.nil (h : OKG K He Ge H G σ δ) : OKG K He Ge H G [] [] := ⟨h.ge, h.gh, h.he, h.nc, fun j t q => by simp at q, fun j k t u p _ hj => by simp at hj⟩
theorem hid_eq {H : Hp} {x dx b : Addr} (h1 : b ≠ x) (h2 : b ≠ dx) : hid H x dx b = H b := by unfold hid; rw [if_neg (by rintro (z | z) <;> contradiction)]
theorem hid_tab2 {K : PySem.W.Frag} {H G : Hp} {x dx : Addr} (h : TabOk K H G) (n1 : ∀ ps, H x ≠ some (.tbl ps)) (n2 : ∀ ps, H dx ≠ some (.tbl ps)) : TabOk K (hid H x dx) G := h.mono (fun P ps e => by
  rw [hid_eq (fun z => n1 ps (by rw [← z]; exact e)) (fun z => n2 ps (by rw [← z]; exact e))]; exact e) (.refl G)
theorem hid_put {A H : Hp} {x dx : Addr} (e : Ex A H) (n1 : A x = none) (n2 : A dx = none) : Ex A (hid H x dx) := ⟨fun a o h k => by
  rw [hid_eq (ne_of_none h n1) (ne_of_none h n2)]; exact e.nt a o h k, fun a ps h => by
  rw [hid_eq (ne_of_none h n1) (ne_of_none h n2)]; exact e.tb a ps h⟩
theorem hid_x {H : Hp} {x dx : Addr} : hid H x dx x = none := by unfold hid; simp
theorem hid_d {H : Hp} {x dx : Addr} : hid H x dx dx = none := by unfold hid; simp
/-- the caller behind such a call -/
theorem OKG.others {G2 H' : Hp} {i : Nat} {q : Option Addr} {C x dx : Addr} {fs : List (Str × D)} (ok : OKG K He Ge H G σ δ) (hi : δ[i]? = some (.ob q C fs)) (hx : σ[i]? = some (some (.ref x))) (hdx : H dx = some (.own x)) (g : Ex G G2) (he : Ex (hid H x dx) H') (nc : Nc K (hid H x dx) G H' G2) :
    ∀ (j : Nat) (s : S), j ≠ i → δ[j]? = some s → ∃ o, σ[j]? = some o ∧ SlotOk K He G2 H' s o ∧ (owned s = true → ∀ p, o = some (.ref p) → hid H x dx p ≠ none) := by
  obtain ⟨o0, eo0, a, dx2, gs, e0, hq, h1, h2, h3, h4, h5, h6, rf⟩ := ok.sl i _ hi
  rw [hx] at eo0; cases eo0; cases e0
  intro j s hj hs
  obtain ⟨o, eo, k⟩ := ok.sl j s hs
  refine ⟨o, eo, ?_⟩
  have kp : ∀ p u, H p = some u → p ≠ x → p ≠ dx → G p = none → ntb u = true → H' p = some u ∧ G2 p = none ∧ hid H x dx p ≠ none := fun p u e n1 n2 hg n => by
    have : hid H x dx p = some u := by rw [hid_eq n1 n2]; exact e
    exact ⟨he.nt _ _ this n, nc p (by rw [this]; exact fun z => nomatch z) hg, by rw [this]; exact fun z => nomatch z⟩
  have nx : ∀ p, owned s = true → o = some (.ref p) → p ≠ x := fun p ho e z => by
    subst z
    exact ok.ne j i s _ p hj hs hi ho rfl (by rw [eo, e]) hx
  cases s with
  | un => exact ⟨trivial, fun z => nomatch z⟩
  | ot _ _ _ => exact ⟨trivial, fun z => nomatch z⟩
  | d y => obtain ⟨v, e1, r⟩ := k; exact ⟨⟨v, e1, r.mono g⟩, fun z => nomatch z⟩
  | own xs =>
    obtain ⟨p, vs, rfl, k1, k2, k3, r⟩ := k
    obtain ⟨u1, u2, u3⟩ := kp p _ k3 (nx p rfl rfl) (fun z => by subst z; rw [hdx] at k3; cases k3) k2 rfl
    exact ⟨⟨p, vs, rfl, k1, u2, u1, r.mono g⟩, fun _ p' e => by cases e; exact u3⟩
  | okd xs =>
    obtain ⟨p, vs, rfl, k1, k2, k3, r⟩ := k
    obtain ⟨u1, u2, u3⟩ := kp p _ k3 (nx p rfl rfl) (fun z => by subst z; rw [hdx] at k3; cases k3) k2 rfl
    exact ⟨⟨p, vs, rfl, k1, u2, u1, r.mono g⟩, fun _ p' e => by cases e; exact u3⟩
  | oko xs =>
    obtain ⟨p, vs, rfl, k1, k2, k3⟩ := k
    obtain ⟨u1, u2, u3⟩ := kp p _ k3 (nx p rfl rfl) (fun z => by subst z; rw [hdx] at k3; cases k3) k2 rfl
    exact ⟨⟨p, vs, rfl, k1, u2, u1⟩, fun _ p' e => by cases e; exact u3⟩
  | ob q2 C2 fs2 =>
    obtain ⟨p, dx3, gs2, rfl, kq, k1, k2, k3, k4, k5, k6, r⟩ := k
    have n1 := nx p rfl rfl
    obtain ⟨u1, u2, u3⟩ := kp p _ k5 n1 (fun z => by subst z; rw [hdx] at k5; cases k5) k2 rfl
    obtain ⟨w1, w2, w3⟩ := kp dx3 _ k6 (fun z => by subst z; rw [h5] at k6; cases k6) (fun z => by subst z; rw [hdx] at k6; cases k6; exact n1 rfl) k4 rfl
    exact ⟨⟨p, dx3, gs2, rfl, kq, k1, u2, k3, w2, u1, w1, r.mono g⟩, fun _ p' e => by cases e; exact u3⟩
theorem OKG.back {G2 H' : Hp} {i : Nat} {q : Option Addr} {C x dx : Addr} {fs fs2 : List (Str × D)} {s : S} {v : V} (ok : OKG K He Ge H G σ δ) (hi : δ[i]? = some (.ob q C fs)) (hx : σ[i]? = some (some (.ref x))) (hdx : H dx = some (.own x)) (hdn : He dx = none)
    (ok' : OKG K (hid H x dx) G H' G2 [some v, some (.ref x)] [s, .ob (some x) C fs2]) : OKG K He Ge H' G2 (some v :: σ) (s :: δ.set i (.ob q C fs2)) := by
  obtain ⟨o0, eo0, a, dx2, gs, e0, hq, h1, h2, h3, h4, h5, h6, rf⟩ := ok.sl i _ hi
  rw [hx] at eo0; cases eo0; cases e0
  have ot := ok.others hi hx hdx ok'.ge ok'.he ok'.nc
  have hlt : i < δ.length := (List.getElem?_eq_some_iff.mp hi).1
  have hh : ∀ b, He b ≠ none → hid H x dx b ≠ none := fun b hb => by
    have n1 : b ≠ x := fun z => by subst z; exact hb h1
    have n2 : b ≠ dx := fun z => by subst z; exact hb hdn
    rw [hid_eq n1 n2]
    intro z; exact hb (ok.he.none z)
  have hne : ∀ p, hid H x dx p = none → He p = none := fun p hp => by
    cases e : He p with
    | none => rfl
    | some u => exact (hh p (by rw [e]; exact fun z => nomatch z) hp).elim
  have he2 : Ex He H' := (hid_put ok.he h1 hdn).trans ok'.he
  have okb : OKG K He Ge H' G2 σ (δ.set i (.ob q C fs2)) := by
    refine ⟨ok.ge.trans ok'.ge, ok'.gh, he2, ⟨fun b b1 b2 => ok'.nc b (hh b b1) (ok.nc b b1 b2), ok.nc.t0, ok'.nc.tb⟩, fun j t hj => ?_, fun j k s' t p hjk hj hk o1 o2 e1 e2 => ?_⟩
    · by_cases z : i = j
      · subst z
        rw [List.getElem?_set_self hlt] at hj; cases hj
        obtain ⟨o1, eo1, a1, dx3, gs3, e1, kq, k1, k2, k3, k4, k5, k6, r⟩ := ok'.sl 1 _ rfl
        simp at eo1; subst eo1; cases e1
        exact ⟨_, hx, x, dx3, gs3, rfl, hq, h1, k2, hne _ k3, k4, k5, k6, r⟩
      · rw [List.getElem?_set_ne z] at hj
        obtain ⟨o, eo, k, _⟩ := ot j t (Ne.symm z) hj
        exact ⟨o, eo, k⟩
    · have un : ∀ (m : Nat) (s : S), (δ.set i (.ob q C fs2))[m]? = some s → owned s = true → ∃ s2, δ[m]? = some s2 ∧ owned s2 = true := fun m s q q2 => by
        by_cases z : i = m
        · subst z; exact ⟨_, hi, rfl⟩
        · rw [List.getElem?_set_ne z] at q; exact ⟨s, q, q2⟩
      obtain ⟨s2, q1, q2⟩ := un j _ hj o1
      obtain ⟨t2, q3, q4⟩ := un k _ hk o2
      exact ok.ne j k s2 t2 p hjk q1 q3 q2 q4 e1 e2
  refine okb.push ?_ fun ho j t p e hj ho2 e2 => ?_
  · have t := ok'.top
    cases s with
    | un => trivial
    | ot _ _ _ => trivial
    | d y => exact t
    | own xs => obtain ⟨p, vs, e, k1, k2⟩ := t; exact ⟨p, vs, e, hne _ k1, k2⟩
    | okd xs => obtain ⟨p, vs, e, k1, k2⟩ := t; exact ⟨p, vs, e, hne _ k1, k2⟩
    | oko xs => obtain ⟨p, vs, e, k1, k2⟩ := t; exact ⟨p, vs, e, hne _ k1, k2⟩
    | ob q2 C2 fs3 => obtain ⟨p, dx3, gs2, e, kq, k1, k2, k3, k4⟩ := t; exact ⟨p, dx3, gs2, e, kq, hne _ k1, k2, hne _ k3, k4⟩
  · by_cases z : i = j
    · subst z
      rw [List.getElem?_set_self hlt] at hj; cases hj
      rw [hx] at e2; cases e2
      exact ok'.ne 0 1 s _ x (by decide) rfl rfl ho rfl (by rw [e]; rfl) rfl
    · rw [List.getElem?_set_ne z] at hj
      obtain ⟨o, eo, _, kn⟩ := ot j t (Ne.symm z) hj
      rw [e2] at eo; cases eo
      have hp := kn ho2 p rfl
      have tp := ok'.top
      cases s with
      | un => cases ho
      | ot _ _ _ => cases ho
      | d y => cases ho
      | own xs => obtain ⟨p', vs, e', k1, _⟩ := tp; rw [e] at e'; cases e'; exact hp k1
      | okd xs => obtain ⟨p', vs, e', k1, _⟩ := tp; rw [e] at e'; cases e'; exact hp k1
      | oko xs => obtain ⟨p', vs, e', k1, _⟩ := tp; rw [e] at e'; cases e'; exact hp k1
      | ob q2 C2 fs3 => obtain ⟨p', dx3, gs2, e', kq, k1, _⟩ := tp; rw [e] at e'; cases e'; exact hp k1
end
def EVX (K : PySem.W.Frag) (te : TE) (δ : List S) (s : S) (δ' : List S) : Prop := ∀ (He Ge H : Hp) (τo : L2.St) (τs : List S) (σ : L2.St), τo.length = τs.length → OK K He Ge H (τo ++ σ) (τs ++ δ) →
  ∀ Q : VK, (∀ v H', OK K He Ge H' (some v :: (τo ++ σ)) (s :: (τs ++ δ')) → Q v H') → te σ H Q
def EBX (K : PySem.W.Frag) (tt : TT) (δ : List S) (b : Bool) (δ' : List S) : Prop := ∀ (He Ge H : Hp) (τo : L2.St) (τs : List S) (σ : L2.St), τo.length = τs.length → OK K He Ge H (τo ++ σ) (τs ++ δ) →
  ∀ Q : Bool → Hp → Prop, (∀ H', OK K He Ge H' (τo ++ σ) (τs ++ δ') → Q b H') → tt σ H Q
def EAX (K : PySem.W.Frag) (ta : TA) (δ : List S) (xs : List D) (δ' : List S) : Prop := ∀ (He Ge H : Hp) (τo : L2.St) (τs : List S) (σ : L2.St), τo.length = τs.length → OK K He Ge H (τo ++ σ) (τs ++ δ) →
  ∀ Q : List V → Hp → Prop, (∀ vs H' G', OKG K He Ge H' G' (τo ++ σ) (τs ++ δ') → RpL K G' xs vs → Q vs H') → ta σ H Q
/-- .. and those that let out -/
def EXX (K : PySem.W.Frag) (E : L2.St → XK) (te : TE) (δ δ' : List S) (c : Addr) (cf : List (Str × D)) : Prop := ∀ (He Ge H : Hp) (τo : L2.St) (τs : List S) (σ : L2.St), τo.length = τs.length → OK K He Ge H (τo ++ σ) (τs ++ δ) →
  (∀ cls d G' H', OKG K He Ge H' G' (τo ++ σ) (τs ++ δ') → XOk K G' H' c cf cls d → E σ cls d H') → ∀ Q : VK, te σ H Q
section
variable {K : PySem.W.Frag} {δ δ1 δ2 : List S} {te ta tb : TE} {tt tu : TT} {tr : TA} {x y z : D} {s : S} {xs : List D} {fs fs2 : List (Str × D)} {C : Addr} {E : L2.St → XK} {c : Addr} {cf : List (Str × D)} {W : WX}
theorem evx_of (h : EV K te δ s) : EVX K te δ s δ := h
theorem eax_of (h : EA K tr δ xs) : EAX K tr δ xs δ := h
theorem ebx_of {b : Bool} (h : EB K tt δ b) : EBX K tt δ b δ := h
theorem exx_of (h : EX K E te δ c cf) : EXX K E te δ δ c cf := h
theorem set_app {τs : List S} {i : Nat} {u : S} : (τs ++ δ).set (τs.length + i) u = τs ++ δ.set i u := by
  rw [List.set_append_right _ _ (Nat.le_add_right _ _), Nat.add_sub_cancel_left]
theorem own_dict {He Ge H G : Hp} {σ : L2.St} {i : Nat} {q : Option Addr} (ok : OKG K He Ge H G σ δ) (hi : δ[i]? = some (.ob q C fs)) : ∃ x dx gs, σ[i]? = some (some (.ref x)) ∧ H x = some (.ins C dx gs) ∧ H dx = some (.own x) ∧ He dx = none ∧ RpF K G fs gs ∧ OKG K (hid H x dx) G H G [some (.ref x)] [.ob (some x) C fs] := by
  obtain ⟨o, eo, x, dx, gs, rfl, hq, h1, h2, h3, h4, h5, h6, rf⟩ := ok.sl i _ hi
  refine ⟨x, dx, gs, eo, h5, h6, h3, rf, ⟨.refl _, ok.gh, hid_ex, ⟨fun _ _ z => z, hid_tab2 ok.nc.tb (fun ps z => by rw [h5] at z; cases z) (fun ps z => by rw [h6] at z; cases z), ok.nc.tb⟩, fun j t hj => ?_, fun j k t u p hjk hj hk => ?_⟩⟩
  · cases j with
    | zero =>
      simp at hj; subst hj
      exact ⟨_, rfl, x, dx, gs, rfl, fun _ z => Option.some.inj z, hid_x, h2, hid_d, h4, h5, h6, rf⟩
    | succ j => simp at hj
  · cases j with
    | zero => cases k with
      | zero => exact (hjk rfl).elim
      | succ k => simp at hk
    | succ j => simp at hj
theorem evx_meth {R : List (Str × D) → List D → Out → List (Str × D) → Prop} {i : Nat} {q : Option Addr} {m : Str} (hi : δ[i]? = some (.ob q C fs)) (hm : fs.lookup m = none) (h : EA K tr δ xs) (hr : R fs xs (.ret s) fs2) : EVX K (tMethS C m (spM K C R) E (tVar i) tr) δ s (δ.set i (.ob q C fs2)) := by
  intro He Ge H τo τs σ hl ⟨G, ok⟩ Q k
  have hat : (τs ++ δ)[τs.length + i]? = some (.ob q C fs) := by rw [List.getElem?_append_right (Nat.le_add_right _ _), Nat.add_sub_cancel_left]; exact hi
  have hσ : ∀ o, (τo ++ σ)[τs.length + i]? = some o → σ[i]? = some o := fun o e => by rw [List.getElem?_append_right (by omega), ← hl, Nat.add_sub_cancel_left] at e; exact e
  obtain ⟨x0, dx0, gs0, e0, e1, e2, e3, rf0, _⟩ := own_dict ok hat
  refine ⟨_, hσ _ e0, x0, dx0, gs0, rfl, e1, rf0.nolook hm, ?_⟩
  refine h He Ge H τo τs σ hl ⟨G, ok⟩ _ fun vs H1 G1 ok1 r1 => ?_
  obtain ⟨x, dx, gs, f0, f1, f2, f3, rf, okc⟩ := own_dict ok1 hat
  have : x0 = x := by
    have q1 := hσ _ e0
    have q2 := hσ _ f0
    rw [q1] at q2; cases q2; rfl
  subst this
  refine ⟨G1, x0, dx, vs, fs, xs, .ret s, fs2, rfl, f2, okc, r1, hr, fun v s' G' H' e ok' => ?_, fun c cf cls d G' H' e => nomatch e⟩
  cases e
  have := ok1.back hat f0 f2 f3 ok'
  rw [set_app] at this
  exact k v H' ⟨G', this⟩
end
end Far
namespace Far
open PySem L2
section
variable {K : PySem.W.Frag} {δ δ1 δ2 : List S} {te ta tb : TE} {tt tu : TT} {tr : TA} {x y z : D} {s : S} {xs : List D} {fs fs2 : List (Str × D)} {C : Addr} {E : L2.St → XK} {c : Addr} {cf : List (Str × D)} {W : WX} {b b2 : Bool}
theorem evx_toD (h : EVX K te δ s δ1) (e : toD s = .ok x) : EVX K te δ (.d x) δ1 := by
  intro He Ge H τo τs σ hl ok Q q
  refine h He Ge H τo τs σ hl ok _ fun v H' ok' => ?_
  cases s with
  | d y => cases e; exact q v H' ok'
  | own ys => cases e; obtain ⟨G', ok'⟩ := ok'; obtain ⟨G2, ok2⟩ := ok'.freeze; exact q v H' ⟨G2, ok2⟩
  | okd ys => cases e; obtain ⟨G', ok'⟩ := ok'; obtain ⟨G2, ok2⟩ := ok'.freezeK; exact q v H' ⟨G2, ok2⟩
  | oko ys => cases e; obtain ⟨G', ok'⟩ := ok'; obtain ⟨G2, ok2⟩ := ok'.freezeO; exact q v H' ⟨G2, ok2⟩
  | _ => cases e
theorem eax_cons (ha : EVX K ta δ (.d x) δ1) (hr : EAX K tr δ1 xs δ2) : EAX K (tCons ta tr) δ (x :: xs) δ2 := by
  intro He Ge H τo τs σ hl ok Q q
  refine ha He Ge H τo τs σ hl ok _ fun v H1 ok1 => ?_
  refine hr He Ge H1 (some v :: τo) (.d x :: τs) σ (by simp [hl]) ok1 _ fun vs H2 G2 ok2 r2 => ?_
  obtain ⟨_, e1, r1⟩ := ok2.top
  cases e1
  exact q (v :: vs) H2 G2 ok2.pop (.cons r1 r2)
theorem evx_call {R : List D → Out → Prop} {E : XK} (h : EAX K tr δ xs δ1) (hr : R xs (.ret s)) : EVX K (tCall (spD K R) [] E tr) δ s δ1 := by
  intro He Ge H τo τs σ hl ok Q q
  refine h He Ge H τo τs σ hl ok _ fun vs H1 G1 ok1 r1 => ?_
  rw [List.append_nil]
  exact sp_ret ok1 r1 hr q
theorem evx_cb {r : List V → Hp → VK → Prop} (ha : EAX K tr δ xs δ1) (hr : RVN K r xs s) : EVX K (tCB r tr) δ s δ1 := by
  intro He Ge H τo τs σ hl ok Q q
  refine ha He Ge H τo τs σ hl ok _ fun vs H1 G1 ok1 r1 => ?_
  exact hr He Ge H1 G1 _ _ vs ok1 r1 Q q
theorem evx_op {r : R2} (ha : EVX K ta δ (.d x) δ1) (hb : EVX K tb δ1 (.d y) δ2) (hr : RV2 K r x y s) : EVX K (tOp r ta tb) δ s δ2 := by
  intro He Ge H τo τs σ hl ok Q q
  refine ha He Ge H τo τs σ hl ok _ fun v H1 ok1 => ?_
  refine hb He Ge H1 (some v :: τo) (.d x :: τs) σ (by simp [hl]) ok1 _ fun u H2 ok2 => ?_
  obtain ⟨G, ok2⟩ := ok2
  obtain ⟨_, e1, r1⟩ := ok2.top
  obtain ⟨_, e2, r2⟩ := ok2.pop.top
  cases e1; cases e2
  exact hr He Ge H2 G _ _ v u ok2.pop.pop r2 r1 Q q
theorem ebx_tru (h : EVX K te δ (.d x) δ1) (t : TrD x b) : EBX K (tTru K te) δ b δ1 := by
  intro He Ge H τo τs σ hl ok Q q
  refine h He Ge H τo τs σ hl ok _ fun v H1 ⟨G, ok1⟩ => ?_
  obtain ⟨_, e1, r1⟩ := ok1.top
  cases e1
  exact ⟨b, t.to ok1.gh r1, q H1 ⟨G, ok1.pop⟩⟩
theorem ebx_not (h1 : EBX K tt δ b δ1) : EBX K (tNot tt) δ (!b) δ1 := by
  intro He Ge H τo τs σ hl ok Q q
  exact h1 He Ge H τo τs σ hl ok _ fun H1 ok1 => q H1 ok1
theorem ebx_orT (h1 : EBX K tt δ true δ1) : EBX K (tOr tt tu) δ true δ1 := by
  intro He Ge H τo τs σ hl ok Q q
  exact h1 He Ge H τo τs σ hl ok _ fun H1 ok1 => iteT (q H1 ok1)
theorem ebx_orF (h1 : EBX K tt δ false δ1) (h2 : EBX K tu δ1 b δ2) : EBX K (tOr tt tu) δ b δ2 := by
  intro He Ge H τo τs σ hl ok Q q
  exact h1 He Ge H τo τs σ hl ok _ fun H1 ok1 => iteF (h2 He Ge H1 τo τs σ hl ok1 Q q)
theorem ebx_andF (h1 : EBX K tt δ false δ1) : EBX K (tAnd tt tu) δ false δ1 := by
  intro He Ge H τo τs σ hl ok Q q
  exact h1 He Ge H τo τs σ hl ok _ fun H1 ok1 => iteF (q H1 ok1)
theorem ebx_andT (h1 : EBX K tt δ true δ1) (h2 : EBX K tu δ1 b δ2) : EBX K (tAnd tt tu) δ b δ2 := by
  intro He Ge H τo τs σ hl ok Q q
  exact h1 He Ge H τo τs σ hl ok _ fun H1 ok1 => iteT (h2 He Ge H1 τo τs σ hl ok1 Q q)
variable {N Bk Ct : List S → Prop} {Rt : S → List S → Prop} {Xc : List S → Addr → List (Str × D) → Prop} {t u : TS}
end
inductive MX (α : Type) where
  | no | ex (δ : List S) (c : Addr) (fs : List (Str × D)) | ok (a : α) (δ : List S)
/-- what a method's run tells that may change its object -/
inductive MR where
  | no | ex (c : Addr) (fs : List (Str × D)) | ok (s : S) (fs : List (Str × D))
def RM (F : List (Str × D) → List D → MR) (fs : List (Str × D)) (xs : List D) (out : Out) (fs2 : List (Str × D)) : Prop := (∃ s, F fs xs = .ok s fs2 ∧ out = .ret s) ∨ (∃ c cf, F fs xs = .ex c cf ∧ out = .exc c cf)
def EVXF (K : PySem.W.Frag) (W : WX) (te : TE) (δ : List S) : MX S → Prop
  | .no => True | .ex δ1 c fs => EXX K (WE W) te δ δ1 c fs | .ok s δ1 => EVX K te δ s δ1
def EAXF (K : PySem.W.Frag) (ta : TA) (δ : List S) : MX (List D) → Prop
  | .ok xs δ1 => EAX K ta δ xs δ1 | _ => True
def EBXF (K : PySem.W.Frag) (tt : TT) (δ : List S) : MX Bool → Prop
  | .ok b δ1 => EBX K tt δ b δ1 | _ => True
variable (Hy : PySem.W.Frag → Prop)
structure SX where
  t : PySem.W.Frag → WX → TE
  f : List S → MX S
  ok : ∀ K, Hy K → ∀ W δ, EVXF K W (t K W) δ (f δ)
structure SAX where
  t : PySem.W.Frag → WX → TA
  f : List S → MX (List D)
  ok : ∀ K, Hy K → ∀ W δ, EAXF K (t K W) δ (f δ)
structure STX where
  t : PySem.W.Frag → WX → TT
  f : List S → MX Bool
  ok : ∀ K, Hy K → ∀ W δ, EBXF K (t K W) δ (f δ)
variable {Hy}
section
variable {K : PySem.W.Frag} {δ δ1 : List S} {W : WX}
theorem SX.okS (e : SX Hy) (hk : Hy K) {W : WX} {s : S} (h : e.f δ = .ok s δ1) : EVX K (e.t K W) δ s δ1 := by have z := e.ok K hk W δ; rw [h] at z; exact z
theorem SX.exS (e : SX Hy) (hk : Hy K) {W : WX} {c : Addr} {fs : List (Str × D)} (h : e.f δ = .ex δ1 c fs) : EXX K (WE W) (e.t K W) δ δ1 c fs := by have z := e.ok K hk W δ; rw [h] at z; exact z
theorem SAX.okA (e : SAX Hy) (hk : Hy K) {W : WX} {s : List D} (h : e.f δ = .ok s δ1) : EAX K (e.t K W) δ s δ1 := by have z := e.ok K hk W δ; rw [h] at z; exact z
theorem STX.okB (e : STX Hy) (hk : Hy K) {W : WX} {s : Bool} (h : e.f δ = .ok s δ1) : EBX K (e.t K W) δ s δ1 := by have z := e.ok K hk W δ; rw [h] at z; exact z
end
def SX.of (e : SE Hy) : SX Hy where
  t := e.t
  f δ := match e.f δ with | .ok s => .ok s δ | .ex c fs => .ex δ c fs | .no => .no
  ok K hk W δ := by
    cases h : e.f δ with
    | ok s => exact evx_of (e.okS hk h)
    | ex c fs => exact exx_of (e.exS hk h)
    | no => trivial
def SAX.of (a : SA Hy) : SAX Hy where
  t := a.t
  f δ := match a.f δ with | .ok s => .ok s δ | _ => .no
  ok K hk W δ := by
    cases h : a.f δ with
    | ok s => exact eax_of (a.okA hk h)
    | _ => trivial
def STX.of (a : ST Hy) : STX Hy where
  t := a.t
  f δ := match a.f δ with | .ok s => .ok s δ | _ => .no
  ok K hk W δ := by
    cases h : a.f δ with
    | ok s => exact ebx_of (a.okB hk h)
    | _ => trivial
def MX.bin {α β : Type} (m : MX α) (f : α → List S → MX β) : MX β := match m with | .ok a δ => f a δ | _ => .no
@[simp] theorem MX.ok_bin {α β : Type} {a : α} {δ : List S} {f : α → List S → MX β} : (MX.ok a δ).bin f = f a δ := (rfl)
@[simp] theorem MX.no_bin {α β : Type} {f : α → List S → MX β} : (MX.no : MX α).bin f = .no := (rfl)
def MX.ofM {α : Type} (m : M α) (δ : List S) : MX α := match m with | .ok a => .ok a δ | _ => .no
@[simp] theorem MX.ofM_ok {α : Type} {a : α} {δ : List S} : MX.ofM (.ok a) δ = .ok a δ := (rfl)
@[simp] theorem SX.of_f (e : SE Hy) (δ : List S) : (SX.of e).f δ = match e.f δ with | .ok s => .ok s δ | .ex c fs => .ex δ c fs | .no => .no := (rfl)
@[simp] theorem SAX.of_f (e : SA Hy) (δ : List S) : (SAX.of e).f δ = match e.f δ with | .ok s => .ok s δ | _ => .no := (rfl)
@[simp] theorem STX.of_f (e : ST Hy) (δ : List S) : (STX.of e).f δ = match e.f δ with | .ok s => .ok s δ | _ => .no := (rfl)
/-- a call of a method that may change the object in slot i -/
def methXF (i : Nat) (C : Addr) (m : Str) (F : List (Str × D) → List D → MR) (xs : M (List D)) (δ : List S) : MX S :=
  match obj δ i with
  | .ok p => if p.2.1 = C ∧ p.2.2.lookup m = none then (match xs with
      | .ok xs => (match F p.2.2 xs with | .ok s fs2 => .ok s (δ.set i (.ob p.1 C fs2)) | .ex c cf => .ex (δ.set i .un) c cf | .no => .no)
      | _ => .no) else .no
  | _ => .no
def SX.meth (i : Nat) (C : Addr) (m : Str) (F : List (Str × D) → List D → MR) (a : SA Hy) : SX Hy where
  t K W := tMethS C m (spM K C (RM F)) (fun _ => E0) (tVar i) (a.t K W)
  f δ := match methXF i C m F (a.f δ) δ with | .ok s δ => .ok s δ | _ => .no
  ok K hk W δ := by
    unfold methXF
    cases h : obj δ i with
    | ok p =>
      simp only
      by_cases z : p.2.1 = C ∧ p.2.2.lookup m = none
      · rw [if_pos z]
        cases h2 : a.f δ with
        | ok xs =>
          simp only
          cases h3 : F p.2.2 xs with
          | ok s fs2 =>
            have hi := obj_ok h
            rw [z.1] at hi
            exact evx_meth hi z.2 (a.okA hk h2) (.inl ⟨s, h3, rfl⟩)
          | _ => trivial
        | _ => trivial
      · rw [if_neg z]; trivial
    | _ => trivial
@[simp] theorem SX.meth_f (i : Nat) (C : Addr) (m : Str) (F : List (Str × D) → List D → MR) (a : SA Hy) (δ : List S) : (SX.meth i C m F a).f δ = match methXF i C m F (a.f δ) δ with | .ok s δ => .ok s δ | _ => .no := (rfl)
def SAX.cons (e : SX Hy) (r : SAX Hy) : SAX Hy where
  t K W := tCons (e.t K W) (r.t K W)
  f δ := (e.f δ).bin fun s δ1 => (MX.ofM (toD s) δ1).bin fun x δ1 => (r.f δ1).bin fun xs δ2 => .ok (x :: xs) δ2
  ok K hk W δ := by
    cases h : e.f δ with
    | ok s δ1 =>
      simp only [MX.ok_bin]
      cases h2 : toD s with
      | ok x =>
        simp only [MX.ofM_ok, MX.ok_bin]
        cases h3 : r.f δ1 with
        | ok xs δ2 => exact eax_cons (evx_toD (e.okS hk h) h2) (r.okA hk h3)
        | _ => trivial
      | _ => trivial
    | _ => trivial
@[simp] theorem SAX.cons_f (e : SX Hy) (r : SAX Hy) (δ : List S) : (SAX.cons e r).f δ = (e.f δ).bin fun s δ1 => (MX.ofM (toD s) δ1).bin fun x δ1 => (r.f δ1).bin fun xs δ2 => .ok (x :: xs) δ2 := (rfl)
def SX.call (F : List D → M S) (a : SAX Hy) : SX Hy where
  t K W := tCall (spD K (RF F)) [] E0 (a.t K W)
  f δ := (a.f δ).bin fun xs δ1 => MX.ofM (F xs) δ1
  ok K hk W δ := by
    cases h : a.f δ with
    | ok xs δ1 =>
      simp only [MX.ok_bin]
      cases h2 : F xs with
      | ok s => exact evx_call (a.okA hk h) (.inl ⟨s, h2, rfl⟩)
      | _ => trivial
    | _ => trivial
@[simp] theorem SX.call_f (F : List D → M S) (a : SAX Hy) (δ : List S) : (SX.call F a).f δ = (a.f δ).bin fun xs δ1 => MX.ofM (F xs) δ1 := (rfl)
def SX.cb (o : OB Hy) (a : SAX Hy) : SX Hy where
  t K W := tCB (o.r K) (a.t K W)
  f δ := (a.f δ).bin fun xs δ1 => MX.ofM (.of (o.f xs)) δ1
  ok K hk W δ := by
    cases h : a.f δ with
    | ok xs δ1 =>
      simp only [MX.ok_bin]
      cases h2 : o.f xs with
      | some s => exact evx_cb (a.okA hk h) (o.ok K hk xs s h2)
      | none => trivial
    | _ => trivial
@[simp] theorem SX.cb_f (o : OB Hy) (a : SAX Hy) (δ : List S) : (SX.cb o a).f δ = (a.f δ).bin fun xs δ1 => MX.ofM (.of (o.f xs)) δ1 := (rfl)
def SX.op (o : O2) (a b : SX Hy) : SX Hy where
  t K W := tOp (o.r K) (a.t K W) (b.t K W)
  f δ := (a.f δ).bin fun s δ1 => (MX.ofM (toD s) δ1).bin fun x δ1 => (b.f δ1).bin fun s δ2 => (MX.ofM (toD s) δ2).bin fun y δ2 => MX.ofM (.of (o.f x y)) δ2
  ok K hk W δ := by
    cases h : a.f δ with
    | ok s δ1 =>
      simp only [MX.ok_bin]
      cases h2 : toD s with
      | ok x =>
        simp only [MX.ofM_ok, MX.ok_bin]
        cases h3 : b.f δ1 with
        | ok s2 δ2 =>
          simp only [MX.ok_bin]
          cases h4 : toD s2 with
          | ok y =>
            simp only [MX.ofM_ok, MX.ok_bin]
            cases h5 : o.f x y with
            | some s => exact evx_op (evx_toD (a.okS hk h) h2) (evx_toD (b.okS hk h3) h4) (o.ok K x y s h5)
            | none => trivial
          | _ => trivial
        | _ => trivial
      | _ => trivial
    | _ => trivial
@[simp] theorem SX.op_f (o : O2) (a b : SX Hy) (δ : List S) : (SX.op o a b).f δ = (a.f δ).bin fun s δ1 => (MX.ofM (toD s) δ1).bin fun x δ1 => (b.f δ1).bin fun s δ2 => (MX.ofM (toD s) δ2).bin fun y δ2 => MX.ofM (.of (o.f x y)) δ2 := (rfl)
def STX.tru (e : SX Hy) : STX Hy where
  t K W := tTru K (e.t K W)
  f δ := (e.f δ).bin fun s δ1 => (MX.ofM (toD s) δ1).bin fun x δ1 => MX.ofM (.of (Far.tru x)) δ1
  ok K hk W δ := by
    cases h : e.f δ with
    | ok s δ1 =>
      simp only [MX.ok_bin]
      cases h2 : toD s with
      | ok x =>
        simp only [MX.ofM_ok, MX.ok_bin]
        cases h3 : Far.tru x with
        | some b => exact ebx_tru (evx_toD (e.okS hk h) h2) (tru_ok h3)
        | none => trivial
      | _ => trivial
    | _ => trivial
@[simp] theorem STX.tru_f (e : SX Hy) (δ : List S) : (STX.tru e).f δ = (e.f δ).bin fun s δ1 => (MX.ofM (toD s) δ1).bin fun x δ1 => MX.ofM (.of (Far.tru x)) δ1 := (rfl)
def STX.not (c : STX Hy) : STX Hy where
  t K W := tNot (c.t K W)
  f δ := (c.f δ).bin fun b δ1 => .ok (!b) δ1
  ok K hk W δ := by
    cases h : c.f δ with
    | ok b δ1 => exact ebx_not (c.okB hk h)
    | _ => trivial
@[simp] theorem STX.not_f (c : STX Hy) (δ : List S) : (STX.not c).f δ = (c.f δ).bin fun b δ1 => .ok (!b) δ1 := (rfl)
def STX.or (c e : STX Hy) : STX Hy where
  t K W := tOr (c.t K W) (e.t K W)
  f δ := (c.f δ).bin fun b δ1 => if b = true then .ok true δ1 else e.f δ1
  ok K hk W δ := by
    cases h : c.f δ with
    | ok b δ1 =>
      simp only [MX.ok_bin]
      cases b with
      | true => rw [if_pos rfl]; exact ebx_orT (c.okB hk h)
      | false =>
        rw [if_neg (fun z => nomatch z)]
        cases h2 : e.f δ1 with
        | ok k δ2 => exact ebx_orF (c.okB hk h) (e.okB hk h2)
        | _ => trivial
    | _ => trivial
@[simp] theorem STX.or_f (c e : STX Hy) (δ : List S) : (STX.or c e).f δ = (c.f δ).bin fun b δ1 => if b = true then .ok true δ1 else e.f δ1 := (rfl)
def STX.and (c e : STX Hy) : STX Hy where
  t K W := tAnd (c.t K W) (e.t K W)
  f δ := (c.f δ).bin fun b δ1 => if b = true then e.f δ1 else .ok false δ1
  ok K hk W δ := by
    cases h : c.f δ with
    | ok b δ1 =>
      simp only [MX.ok_bin]
      cases b with
      | false => rw [if_neg (fun z => nomatch z)]; exact ebx_andF (c.okB hk h)
      | true =>
        rw [if_pos rfl]
        cases h2 : e.f δ1 with
        | ok k δ2 => exact ebx_andT (c.okB hk h) (e.okB hk h2)
        | _ => trivial
    | _ => trivial
@[simp] theorem STX.and_f (c e : STX Hy) (δ : List S) : (STX.and c e).f δ = (c.f δ).bin fun b δ1 => if b = true then e.f δ1 else .ok false δ1 := (rfl)
/-- return e, and what the slots are then -/
def SS.retS (e : SE Hy) : SS Hy where
  t K W := tRet (e.t K W)
  f δ := Fl.exp (e.f δ) δ fun s => if notOt s = true then .rto s δ else .no
  ok K hk W δ := by
    cases h : e.f δ with
    | no => trivial
    | ex c fs => exact sd_retX (e.exS hk h) rfl
    | ok s =>
      rw [Fl.ok_exp]
      by_cases z : notOt s = true
      · rw [if_pos z]; exact sd_ret (e.okS hk h) z (.inr rfl)
      · rw [if_neg z]; trivial
@[simp] theorem SS.retS_f (e : SE Hy) (δ : List S) : (SS.retS e).f δ = Fl.exp (e.f δ) δ fun s => if notOt s = true then .rto s δ else .no := (rfl)
@[simp] theorem notOt_d {x : D} : notOt (.d x) = true := (rfl)
@[simp] theorem notOt_own {x : List D} : notOt (.own x) = true := (rfl)
section
variable {Cs : List Addr} {ll : Bool}
@[simp] theorem rfo_non : rfo Cs ll .non = true := by rw [rfo]
@[simp] theorem rfo_bl {b : Bool} : rfo Cs ll (.bl b) = true := by rw [rfo]
@[simp] theorem rfo_int {b : Int} : rfo Cs ll (.int b) = true := by rw [rfo]
@[simp] theorem rfo_str {b : Str} : rfo Cs ll (.str b) = true := by rw [rfo]
@[simp] theorem rfo_tup {xs : List D} : rfo Cs ll (.tup xs) = xs.all (rfo Cs ll) := by rw [rfo]; exact rfoL_all xs
@[simp] theorem rfo_lst {xs : List D} : rfo Cs ll (.lst xs) = (ll && xs.all (rfo Cs ll)) := by rw [rfo, rfoL_all xs]
@[simp] theorem rfo_ins {C : Addr} {fs : List (Str × D)} : rfo Cs ll (.ins C fs) = (!(Cs.contains C) && fs.all fun p => rfo Cs ll p.2) := by rw [rfo, rfoF_all fs]
end
@[simp] theorem Fl.rto_next {s : S} {δ : List S} {f : List S → Fl} : (Fl.rto s δ).next f = .rto s δ := (rfl)
open PyProof.Rows
section
variable {P : Program} {w : World} {K : PySem.W.Frag} {mg : Str → Option Value} {base : Heap}
end
end Far
namespace Far
open PySem L2 PySem.Spec PyProof.Rows
section
variable {CX : CXT} {P : Program} {w : World} {K : PySem.W.Frag} {mg : Str → Option Value}
end
end Far
namespace Far
open PySem L2 PySem.Spec PyProof.Rows
abbrev FunDf (K : PySem.W.Frag) (x qual : Str) (st : Stmt) (f : Addr) (fd : FuncData) (dvs : List V) : Prop := FunD K x qual (defArgs st) (defBody st) (defScope st) dvs [] f fd
section
variable {P : Program} {w : World} {K : PySem.W.Frag} {mg : Str → Option Value} {base : Heap}
end
/-- all arguments told, the last one by its default None -/
theorem FunDf.all {K : PySem.W.Frag} {x qual : Str} {st : Stmt} {f : Addr} {fd : FuncData} {ps : List Str} (F : FunDf K x qual st f fd [.non])
    (h : ∀ (T : Addr) (kV doc pm : Value) (an : Option Addr) (cdv ct : Value) (us its : List Value), us.length = ps.length → its.length = 1 → ∃ k, bindArgs (PySem.W.fnOf x qual (defArgs st) (defBody st) (defScope st) (.ref T) kV doc pm an cdv ct) { pos := us } = seqItems? (.ref T) >>= k ∧ k (some its.toArray) = pure (ps.zip (us ++ its.drop 1))) : Binds K fd ps [] := by
  obtain ⟨ds, h1, h2⟩ := FunD.binds1 F ps.length 1 (by simp) (by simp) (fun T kV doc pm an cdv ct us its l1 l2 => h T kV doc pm an cdv ct us its l1 (by simpa using l2))
  cases h1
  exact h2
theorem FunDf.one {K : PySem.W.Frag} {x qual : Str} {st : Stmt} {f : Addr} {fd : FuncData} {ps : List Str} {m : Nat} (F : FunDf K x qual st f fd [.non]) (hm : m + 1 = ps.length)
    (h : ∀ (T : Addr) (kV doc pm : Value) (an : Option Addr) (cdv ct : Value) (us its : List Value), us.length = m → its.length = 1 → ∃ k, bindArgs (PySem.W.fnOf x qual (defArgs st) (defBody st) (defScope st) (.ref T) kV doc pm an cdv ct) { pos := us } = seqItems? (.ref T) >>= k ∧ k (some its.toArray) = pure (ps.zip (us ++ its.drop 0))) : Binds K fd ps [.none] := by
  obtain ⟨ds, h1, h2⟩ := FunD.binds1 F m 0 (by simp) (by simpa using hm) (fun T kV doc pm an cdv ct us its l1 l2 => h T kV doc pm an cdv ct us its l1 (by simpa using l2))
  cases h1 with
  | cons a b =>
    cases b
    have e : _ = Value.none := a
    subst e
    exact h2
section
variable {K : PySem.W.Frag} {δ : List S} {ta : TE} {C : Addr} {fs : List (Str × D)} {s : S}
end
section
variable {Hy : PySem.W.Frag → Prop} {δ : List S}
end
end Far
namespace Far
open PySem L2
section
variable {K : PySem.W.Frag} {He Ge H G : Hp} {σ : St} {δ : List S}
end
section
variable {Hy : PySem.W.Frag → Prop}
variable {δ : List S}
end
end Far
namespace Far
open PySem L2
section
variable {K : PySem.W.Frag} {He Ge H G : Hp} {σ : L2.St} {δ : List S}
theorem OKG.move {a b : Nat} {s : S} (h : OKG K He Ge H G σ δ) (ha : a < δ.length) (hb : δ[b]? = some s) (es : σ[a]? = σ[b]?) (hab : a ≠ b) : OKG K He Ge H G σ ((δ.set b .un).set a s) where
  ge := h.ge
  gh := h.gh
  he := h.he
  nc := h.nc
  sl := fun i t q => by
    obtain ⟨o, eo, k⟩ := h.sl b s hb
    by_cases q1 : a = i
    · subst q1
      rw [List.getElem?_set_self (by rw [List.length_set]; exact ha)] at q; cases q
      exact ⟨o, by rw [es]; exact eo, k⟩
    · rw [List.getElem?_set_ne q1] at q
      by_cases q2 : b = i
      · subst q2
        rw [List.getElem?_set_self (List.getElem?_eq_some_iff.mp hb).1] at q; cases q
        exact ⟨o, eo, trivial⟩
      · rw [List.getElem?_set_ne q2] at q
        exact h.sl i t q
  ne := fun i j u t p hij hi hj o1 o2 e1 e2 => by
    have key : ∀ (i : Nat) (u : S), ((δ.set b .un).set a s)[i]? = some u → owned u = true → ∃ i', δ[i']? = some u ∧ (σ[i]? = σ[i']?) ∧ ((i = a ∧ i' = b) ∨ (i ≠ a ∧ i ≠ b ∧ i' = i)) := fun i u hi ho => by
      by_cases q1 : a = i
      · subst q1
        rw [List.getElem?_set_self (by rw [List.length_set]; exact ha)] at hi; cases hi
        exact ⟨b, hb, es, .inl ⟨rfl, rfl⟩⟩
      · rw [List.getElem?_set_ne q1] at hi
        by_cases q2 : b = i
        · subst q2
          rw [List.getElem?_set_self (List.getElem?_eq_some_iff.mp hb).1] at hi; cases hi
          cases ho
        · rw [List.getElem?_set_ne q2] at hi
          exact ⟨i, hi, rfl, .inr ⟨fun z => q1 z.symm, fun z => q2 z.symm, rfl⟩⟩
    obtain ⟨i', a1, a2, a3⟩ := key i u hi o1
    obtain ⟨j', b1, b2, b3⟩ := key j t hj o2
    refine h.ne i' j' u t p (fun z => ?_) a1 b1 o1 o2 (by rw [← a2]; exact e1) (by rw [← b2]; exact e2)
    omega
theorem OKG.swapIn {A : L2.St} {B : List S} {σ2 : L2.St} {n j : Nat} {R : List S} {s : S} (ok : OKG K He Ge H G ((A ++ σ) ++ σ2) ((B ++ (δ ++ List.replicate n .un)) ++ R)) (hl : A.length = B.length) (hL : (A ++ σ).length = (B ++ (δ ++ List.replicate n S.un)).length) (hj : δ[j]? = some s) (jr : j < R.length) (e : σ[j]? = σ2[j]?) :
    OKG K He Ge H G ((A ++ σ) ++ σ2) ((B ++ (δ.set j .un ++ List.replicate n .un)) ++ R.set j s) := by
  have jd := (List.getElem?_eq_some_iff.mp hj).1
  have b1 : B.length + j < (B ++ (δ ++ List.replicate n S.un)).length := by simp only [List.length_append]; omega
  have js : j < σ.length := by
    simp only [List.length_append, List.length_replicate] at hL; omega
  have hb : ((B ++ (δ ++ List.replicate n S.un)) ++ R)[B.length + j]? = some s := by
    rw [List.getElem?_append_left b1, List.getElem?_append_right (Nat.le_add_right ..), Nat.add_sub_cancel_left, List.getElem?_append_left jd]; exact hj
  have es : ((A ++ σ) ++ σ2)[(B ++ (δ ++ List.replicate n S.un)).length + j]? = ((A ++ σ) ++ σ2)[B.length + j]? := by
    rw [← hL, List.getElem?_append_right (Nat.le_add_right ..), Nat.add_sub_cancel_left, List.getElem?_append_left (by rw [hL]; exact b1), ← hl, List.getElem?_append_right (Nat.le_add_right ..), Nat.add_sub_cancel_left, e]
  have z := ok.move (a := (B ++ (δ ++ List.replicate n S.un)).length + j) (b := B.length + j) (s := s) (by simp only [List.length_append] at b1 ⊢; omega) hb es (by omega)
  rw [List.set_append_left _ _ b1, List.set_append_right _ _ (Nat.le_add_right ..), Nat.add_sub_cancel_left, List.set_append_left _ _ jd] at z
  have len : (B ++ (δ.set j S.un ++ List.replicate n S.un)).length = (B ++ (δ ++ List.replicate n S.un)).length := by simp
  rw [List.set_append_right _ _ (by rw [len]; exact Nat.le_add_right ..), len, Nat.add_sub_cancel_left] at z
  exact z
theorem OKG.swapOut {A : L2.St} {B : List S} {σ2 : L2.St} {n j : Nat} {R : List S} {s : S} (ok : OKG K He Ge H G ((A ++ σ) ++ σ2) ((B ++ (δ ++ List.replicate n .un)) ++ R)) (hl : A.length = B.length) (hL : (A ++ σ).length = (B ++ (δ ++ List.replicate n S.un)).length) (hj : R[j]? = some s) (jd : j < δ.length) (e : σ[j]? = σ2[j]?) :
    OKG K He Ge H G ((A ++ σ) ++ σ2) ((B ++ (δ.set j s ++ List.replicate n .un)) ++ R.set j .un) := by
  have jr := (List.getElem?_eq_some_iff.mp hj).1
  have b1 : B.length + j < (B ++ (δ ++ List.replicate n S.un)).length := by simp only [List.length_append]; omega
  have hb : ((B ++ (δ ++ List.replicate n S.un)) ++ R)[(B ++ (δ ++ List.replicate n S.un)).length + j]? = some s := by
    rw [List.getElem?_append_right (Nat.le_add_right ..), Nat.add_sub_cancel_left]; exact hj
  have es : ((A ++ σ) ++ σ2)[(B ++ (δ ++ List.replicate n S.un)).length + j]? = ((A ++ σ) ++ σ2)[B.length + j]? := by
    rw [← hL, List.getElem?_append_right (Nat.le_add_right ..), Nat.add_sub_cancel_left, List.getElem?_append_left (by rw [hL]; exact b1), ← hl, List.getElem?_append_right (Nat.le_add_right ..), Nat.add_sub_cancel_left, e]
  have z := ok.move (a := B.length + j) (b := (B ++ (δ ++ List.replicate n S.un)).length + j) (s := s) (by simp only [List.length_append] at b1 ⊢; omega) hb es.symm (by omega)
  rw [List.set_append_right _ _ (Nat.le_add_right ..), Nat.add_sub_cancel_left, List.set_append_left _ _ b1, List.set_append_right _ _ (Nat.le_add_right ..), Nat.add_sub_cancel_left, List.set_append_left _ _ jd] at z
  exact z
theorem set_id {α : Type} {l : List α} {j : Nat} {s : α} (h : l[j]? = some s) : l.set j s = l := by
  refine List.ext_getElem? fun i => ?_
  by_cases q : j = i
  · subst q; rw [List.getElem?_set_self (List.getElem?_eq_some_iff.mp h).1, h]
  · rw [List.getElem?_set_ne q]
theorem hide_ob {vs : List Nat} {j : Nat} {q : Option Addr} {C : Addr} {fs fs' : List (Str × D)} (h : δ[j]? = some (.ob q C fs)) : hide (δ.set j (.ob q C fs')) vs = hide δ vs := by
  unfold hide
  rw [List.map_set, show hideS (.ob q C fs') = .un from rfl, set_id (by rw [List.getElem?_map, h]; rfl)]
theorem wipe_at {σ2 : L2.St} {vs : List Nat} {j : Nat} (e : wipe σ2 vs = wipe σ vs) (h : j ∉ vs) : σ2[j]? = σ[j]? := by
  have a := congrArg (fun l : L2.St => l[j]?) e
  simp only [wipe_get] at a
  rwa [if_neg (fun q => h q.1), if_neg (fun q => h q.1)] at a
theorem evx_lst {tr : TA} {xs : List D} {δ1 : List S} (h : EAX K tr δ xs δ1) (hz : xs.length ≤ sizeLine) : EVX K (tLst tr) δ (.own xs) δ1 := by
  intro He Ge H τo τs σ hl ok Q q
  refine h He Ge H τo τs σ hl ok _ fun vs H1 G ok1 r1 => ⟨by rw [← r1.length]; exact hz, fun p hp => ?_⟩
  exact q _ _ ⟨_, ok1.newOwn hp r1⟩
theorem evx_frz {te : TE} {xs : List D} {δ1 : List S} (h : EVX K te δ (.own xs) δ1) : EVX K te δ (.d (.lst xs)) δ1 := by
  intro He Ge H τo τs σ hl ok Q q
  refine h He Ge H τo τs σ hl ok _ fun v H' ⟨G', ok'⟩ => ?_
  obtain ⟨G2, ok2⟩ := ok'.freeze
  exact q v H' ⟨G2, ok2⟩
theorem evx_lc {ys : List D} {p : Nat → Bool} {f : Nat → D} {F : Nat → List (Str × D)} {q : Option Addr} {C : Addr} {j : Nat} {wi : TI} {v : Nat} {tt : TT} {te : TE} {vs : List Nat} (hi : EI K wi δ ys) (hg : v ∈ vs) (hz : ys.length ≤ sizeLine) (hj : δ[j]? = some (.ob q C (F 0))) (jv : j ∉ vs)
    (k : ∀ i y, ys[i]? = some y → ∃ δ2 δ3, ET K (gName v) ((hide δ vs).set j (.ob q C (F i))) y δ2 ∧ EBX K tt δ2 (p i) δ3 ∧ (p i = false → δ3[j]? = some (.ob q C (F (i + 1)))) ∧ (p i = true → ∃ δ4, EVX K te δ3 (.d (f i)) δ4 ∧ δ4[j]? = some (.ob q C (F (i + 1))))) :
    EVX K (tLc wi (gName v) tt te vs) δ (.own (((List.range ys.length).filter p).map f)) (δ.set j (.ob q C (F ys.length))) := by
  have jd := (List.getElem?_eq_some_iff.mp hj).1
  intro He Ge H τo τs σ hl ok Q qq
  refine hi He Ge H τo τs σ hl ok _ fun J H1 G ok1 jis => ?_
  intro Dp hD
  have okD := (ok1.newOwn (xs := []) (vs := []) hD .nil).ground
  refine ⟨fun i m H2 => i + m = ys.length ∧ OK K He G H2 (some (.ref Dp) :: (τo ++ σ)) (.own (((List.range i).filter p).map f) :: (τs ++ δ.set j (.ob q C (F i)))), ⟨ys.length, by omega, G, by rw [set_id hj]; exact okD⟩, fun i m H2 ⟨em, G2, ok2⟩ => ?_⟩
  obtain ⟨j1, j2, j3⟩ := jis H2 G2 ok2.ge ok2.gh
  rcases Nat.lt_or_ge i ys.length with hlt | hge
  · have ey : ys[i]? = some ys[i] := List.getElem?_eq_getElem hlt
    have tk : List.range (i + 1) = List.range i ++ [i] := List.range_succ
    refine .inr ⟨j1 i hlt, fun H3 => OK K He G H3 (some (.ref Dp) :: (τo ++ σ)) (.own (((List.range (i + 1)).filter p).map f) :: (τs ++ δ.set j (.ob q C (F (i + 1))))), fun H3 k3 => ⟨m - 1, by omega, by omega, k3⟩, fun x H3 hx => ?_⟩
    obtain ⟨G3, y, g1, g2, g3, g4, ey2, rv⟩ := j2 i x H3 hx hlt
    rw [ey] at ey2
    cases ey2
    replace ok2 := ok2.grow g1 g2 g3 (g4.ok ok2.nc.tb)
    obtain ⟨δ2, δ3, kt, kb, kf, ke⟩ := k i _ ey
    have hd : δ.length ≤ σ.length := by have := ok1.len; simp only [List.length_append] at this; omega
    have dl : (δ.set j (.ob q C (F i))).length = δ.length := List.length_set ..
    have okB := OKG.block (vs := vs) (τo := some (.ref Dp) :: τo) (τs := .own (((List.range i).filter p).map f) :: τs) (σ := σ) (δ := δ.set j (.ob q C (F i))) ok2 (by simp [hl])
    rw [dl, hide_ob hj] at okB
    have hA : (some (V.ref Dp) :: τo).length = (S.own (((List.range i).filter p).map f) :: τs).length := by simp [hl]
    have hL0 : ((some (V.ref Dp) :: τo) ++ σ).length = ((S.own (((List.range i).filter p).map f) :: τs) ++ (δ.set j (.ob q C (F i)) ++ List.replicate (σ.length - δ.length) S.un)).length := by
      simp only [List.length_append, List.length_cons, List.length_replicate, List.length_set]; omega
    have hL : ((some (V.ref Dp) :: τo) ++ σ).length = ((S.own (((List.range i).filter p).map f) :: τs) ++ (δ.set j S.un ++ List.replicate (σ.length - δ.length) S.un)).length := by
      simp only [List.length_append, List.length_cons, List.length_replicate, List.length_set]; omega
    have okC := OKG.swapIn okB hA hL0 (s := .ob q C (F i)) (j := j) (by rw [List.getElem?_set_self jd]) (by rw [hide_len]; exact jd) (by rw [wipe_get, if_neg (fun z => jv z.1)])
    rw [List.set_set] at okC
    have ok3 := kt He G H3 G3 _ _ (wipe σ vs) x hL okC rv (fun σ2 H4 => OKG K He G H4 G3 (((some (V.ref Dp) :: τo) ++ σ) ++ σ2) (((S.own (((List.range i).filter p).map f) :: τs) ++ (δ.set j .un ++ List.replicate (σ.length - δ.length) .un)) ++ δ2)) (fun σ2 ok => ok)
    have ew : wipe ((wipe σ vs).set v (some x)) vs = wipe σ vs := by rw [wipe_set hg, wipe_wipe]
    refine ⟨ew, ?_⟩
    change OKG K He G H3 G3 (((some (V.ref Dp) :: τo) ++ σ) ++ (wipe σ vs).set v (some x)) _ at ok3
    generalize (wipe σ vs).set v (some x) = σ2 at *
    · have e2 : σ[j]? = σ2[j]? := (wipe_at ew jv).symm
      refine kb He G H3 _ _ σ2 hL ⟨G3, ok3⟩ _ fun H4 ⟨G4, ok4⟩ => ?_
      cases hp : p i with
      | false =>
        refine iteF ?_
        have e : ((List.range (i + 1)).filter p).map f = ((List.range i).filter p).map f := by rw [tk, List.filter_append]; simp [hp]
        rw [e]
        have ok5 := OKG.swapOut ok4 hA hL (s := .ob q C (F (i + 1))) (j := j) (kf hp) (by rw [List.length_set]; exact jd) e2
        rw [List.set_set] at ok5
        exact ⟨G4, ok5.unblock (by simp only [List.length_append, List.length_cons, List.length_replicate, List.length_set]; omega)⟩
      | true =>
        obtain ⟨δ4, ke, k4⟩ := ke hp
        refine iteT (ke He G H4 _ _ σ2 hL ⟨G4, ok4⟩ _ fun w H5 ⟨G5, ok5⟩ => ?_)
        have ok5' := OKG.swapOut (A := some w :: (some (.ref Dp) :: τo)) (B := .d (f i) :: (S.own (((List.range i).filter p).map f) :: τs)) (σ := σ) (δ := δ.set j .un) ok5 (by simp [hl]) (by simp only [List.length_append, List.length_cons, List.length_replicate, List.length_set]; omega) (s := .ob q C (F (i + 1))) (j := j) k4 (by rw [List.length_set]; exact jd) e2
        rw [List.set_set] at ok5'
        have ok6 := OKG.unblock (τs := .d (f i) :: (S.own (((List.range i).filter p).map f) :: τs)) ok5' (by simp only [List.length_append, List.length_cons, List.length_replicate, List.length_set]; omega)
        obtain ⟨o, eo, pp, acc, e1, _, _, h3, r3⟩ := ok6.sl 1 _ rfl
        cases eo; cases e1
        obtain ⟨w', e2', rw_⟩ := ok6.top
        cases e2'
        have hacc : acc.length ≤ i := by
          rw [← r3.length, List.length_map]
          exact Nat.le_trans (List.length_filter_le _ _) (by rw [List.length_range]; omega)
        refine ⟨acc, h3, by omega, G5, ?_⟩
        have e : ((List.range (i + 1)).filter p).map f = ((List.range i).filter p).map f ++ [f i] := by rw [tk, List.filter_append]; simp [hp]
        rw [e]
        exact (OKG.change (i := 1) ok6 rfl rfl h3 (r3.append (.cons rw_ .nil))).pop
  · refine .inl ⟨j3 i hge, ?_⟩
    have e : i = ys.length := by omega
    rw [e] at ok2
    exact qq _ H2 ⟨G2, ok1.unground ok2⟩
end
section
variable {Hy : PySem.W.Frag → Prop}
def SX.lst (a : SAX Hy) : SX Hy where
  t K W := tLst (a.t K W)
  f δ := (a.f δ).bin fun xs δ1 => if xs.length ≤ sizeLine then .ok (.own xs) δ1 else .no
  ok K hk W δ := by
    cases h : a.f δ with
    | ok xs δ1 =>
      rw [MX.ok_bin]
      by_cases z : xs.length ≤ sizeLine
      · rw [if_pos z]; exact evx_lst (a.okA hk h) z
      · rw [if_neg z]; trivial
    | _ => trivial
@[simp] theorem SX.lst_f (a : SAX Hy) (δ : List S) : (SX.lst a).f δ = (a.f δ).bin fun xs δ1 => if xs.length ≤ sizeLine then .ok (.own xs) δ1 else .no := (rfl)
def frzX (m : MX S) : MX S := match m with | .ok (.own xs) δ1 => .ok (.d (.lst xs)) δ1 | r => r
def SX.frz (e : SX Hy) : SX Hy where
  t := e.t
  f δ := frzX (e.f δ)
  ok K hk W δ := by
    have z := e.ok K hk W δ
    unfold frzX
    split
    · rename_i h; rw [h] at z; exact evx_frz z
    · exact z
@[simp] theorem SX.frz_f (e : SX Hy) (δ : List S) : (SX.frz e).f δ = frzX (e.f δ) := (rfl)
@[simp] theorem frzX_own {xs : List D} {δ : List S} : frzX (.ok (.own xs) δ) = .ok (.d (.lst xs)) δ := (rfl)
def obF (q : Option Addr) (C : Addr) (o : Option D) (m : M (Option Addr × Addr × List (Str × D))) : Option (Option D × List (Str × D)) := match m with
  | .ok p => if p.1 = q ∧ p.2.1 = C then some (o, p.2.2) else none | _ => none
theorem obF_to {q : Option Addr} {C : Addr} {o o' : Option D} {m : M (Option Addr × Addr × List (Str × D))} {fs : List (Str × D)} (h : obF q C o m = some (o', fs)) : o' = o ∧ m = .ok (q, C, fs) := by
  unfold obF at h
  split at h
  · rename_i p
    split at h
    · rename_i z
      obtain ⟨a, b, c⟩ := p
      obtain ⟨z1, z2⟩ := z
      simp only at z1 z2
      subst z1; subst z2
      cases h
      exact ⟨rfl, rfl⟩
    · cases h
  · cases h
/-- one turn of a comprehension that changes the object in slot j -/
def stX (c : STX Hy) (e : SX Hy) (v j : Nat) (δ : List S) (q : Option Addr) (C : Addr) (fs : List (Str × D)) (y : D) : Option (Option D × List (Str × D)) :=
  match c.f ((δ.set j (.ob q C fs)).set v (.d y)) with
  | .ok true δ3 => (match e.f δ3 with | .ok (.d x) δ4 => obF q C (some x) (obj δ4 j) | _ => none)
  | .ok false δ3 => obF q C none (obj δ3 j)
  | _ => none
def lcT (st : List (Str × D) → D → Option (Option D × List (Str × D))) : List (Str × D) → List D → Option (List (Option D × List (Str × D)))
  | _, [] => some []
  | fs, y :: r => match st fs y with | some p => (lcT st p.2 r).map (p :: ·) | none => none
def Fof (fs : List (Str × D)) : List (Option D × List (Str × D)) → Nat → List (Str × D)
  | _, 0 => fs | [], _ + 1 => fs | p :: r, i + 1 => Fof p.2 r i
@[simp] theorem Fof_0 {fs : List (Str × D)} {tr : List (Option D × List (Str × D))} : Fof fs tr 0 = fs := by cases tr <;> rfl
theorem lcT_get {st : List (Str × D) → D → Option (Option D × List (Str × D))} : ∀ {ys : List D} {fs : List (Str × D)} {tr : List (Option D × List (Str × D))}, lcT st fs ys = some tr → tr.length = ys.length ∧ ∀ i y, ys[i]? = some y → ∃ o, st (Fof fs tr i) y = some (o, Fof fs tr (i + 1)) ∧ tr[i]? = some (o, Fof fs tr (i + 1))
  | [], fs, tr, h => by cases h; exact ⟨rfl, fun i y e => by simp at e⟩
  | y :: r, fs, tr, h => by
    unfold lcT at h
    cases h1 : st fs y with
    | none => rw [h1] at h; cases h
    | some p =>
      rw [h1] at h
      simp only [Option.map_eq_some_iff] at h
      obtain ⟨tr', h2, rfl⟩ := h
      obtain ⟨a, b⟩ := lcT_get h2
      refine ⟨by simp [a], fun i z e => ?_⟩
      cases i with
      | zero =>
        simp only [List.getElem?_cons_zero, Option.some.injEq] at e
        subst e
        exact ⟨p.1, by simpa [Fof] using h1, by simp [Fof]⟩
      | succ i =>
        rw [List.getElem?_cons_succ] at e
        obtain ⟨o, b1, b2⟩ := b i z e
        exact ⟨o, b1, by rw [List.getElem?_cons_succ]; exact b2⟩
def trO (tr : List (Option D × List (Str × D))) (i : Nat) : Option D := match tr[i]? with | some p => p.1 | none => none
theorem trO_all : ∀ tr : List (Option D × List (Str × D)), ((List.range tr.length).filter fun i => (trO tr i).isSome).map (fun i => (trO tr i).getD .non) = tr.filterMap (·.1)
  | [] => rfl
  | p :: r => by
    have ih := trO_all r
    rw [List.length_cons, List.range_succ_eq_map, List.filter_cons, List.filter_map, List.filterMap_cons]
    have e : ((fun i => (trO (p :: r) i).isSome) ∘ Nat.succ) = fun i => (trO r i).isSome := funext fun i => by unfold trO; simp [Function.comp]
    have e2 : ((fun i => (trO (p :: r) i).getD D.non) ∘ Nat.succ) = fun i => (trO r i).getD .non := funext fun i => by unfold trO; simp [Function.comp]
    rw [e]
    have e0 : trO (p :: r) 0 = p.1 := rfl
    rw [e0]
    cases h : p.1 with
    | none => simp only [Option.isSome_none]; rw [if_neg (fun z => nomatch z), List.map_map, e2]; exact ih
    | some x => simp only [Option.isSome_some, if_true]; rw [List.map_cons, List.map_map, e2, ih, e0, h]; rfl
def lcXF (c : STX Hy) (e : SX Hy) (v j : Nat) (vs : List Nat) (δ : List S) (p : Option Addr × Addr × List (Str × D)) (ys : List D) : MX S :=
  if v ∈ vs ∧ j ∉ vs ∧ v < δ.length ∧ ys.length ≤ sizeLine then (match lcT (stX c e v j (hide δ vs) p.1 p.2.1) p.2.2 ys with
    | some tr => .ok (.own (tr.filterMap (·.1))) (δ.set j (.ob p.1 p.2.1 (Fof p.2.2 tr ys.length))) | none => .no) else .no
def SX.lc (i : SI Hy) (v : Nat) (c : STX Hy) (e : SX Hy) (vs : List Nat) (j : Nat) : SX Hy where
  t K W := tLc (i.t K W) (gName v) (c.t K W) (e.t K W) vs
  f δ := match obj δ j with | .ok p => (match i.f δ with | .ok ys => lcXF c e v j vs δ p ys | _ => .no) | _ => .no
  ok K hk W δ := by
    cases h : obj δ j with
    | ok p =>
      cases h2 : i.f δ with
      | ok ys =>
        simp only
        unfold lcXF
        by_cases z : v ∈ vs ∧ j ∉ vs ∧ v < δ.length ∧ ys.length ≤ sizeLine
        · rw [if_pos z]
          cases h3 : lcT (stX c e v j (hide δ vs) p.1 p.2.1) p.2.2 ys with
          | none => trivial
          | some tr =>
            obtain ⟨tl, tg⟩ := lcT_get h3
            show EVX K _ δ (.own (tr.filterMap (·.1))) _
            rw [← trO_all tr, tl]
            refine evx_lc (F := Fof p.2.2 tr) (q := p.1) (C := p.2.1) (i.okI hk h2) z.1 z.2.2.2 (by rw [Fof_0]; exact obj_ok h) z.2.1 fun k y ey => ?_
            obtain ⟨o, t1, t2⟩ := tg k y ey
            have oa : trO tr k = o := by unfold trO; rw [t2]
            have et : ET K (gName v) ((hide δ vs).set j (.ob p.1 p.2.1 (Fof p.2.2 tr k))) y (((hide δ vs).set j (.ob p.1 p.2.1 (Fof p.2.2 tr k))).set v (.d y)) := et_name (by rw [List.length_set, hide_len]; exact z.2.2.1)
            unfold stX at t1
            rw [oa]
            cases h4 : c.f (((hide δ vs).set j (.ob p.1 p.2.1 (Fof p.2.2 tr k))).set v (.d y)) with
            | ok b δ3 =>
              rw [h4] at t1
              cases b with
              | true =>
                simp only at t1
                cases h5 : e.f δ3 with
                | ok s δ4 =>
                  rw [h5] at t1
                  cases s with
                  | d x =>
                    simp only at t1
                    obtain ⟨q1, q2⟩ := obF_to t1
                    subst q1
                    exact ⟨_, δ3, et, c.okB hk h4, (fun z => nomatch z), fun _ => ⟨δ4, e.okS hk h5, obj_ok q2⟩⟩
                  | _ => cases t1
                | _ => rw [h5] at t1; cases t1
              | false =>
                simp only at t1
                obtain ⟨q1, q2⟩ := obF_to t1
                subst q1
                exact ⟨_, δ3, et, c.okB hk h4, (fun _ => obj_ok q2), fun z => nomatch z⟩
            | _ => rw [h4] at t1; cases t1
        · rw [if_neg z]; trivial
      | _ => trivial
    | _ => trivial
@[simp] theorem SX.lc_f (i : SI Hy) (v : Nat) (c : STX Hy) (e : SX Hy) (vs : List Nat) (j : Nat) (δ : List S) : (SX.lc i v c e vs j).f δ = match obj δ j with | .ok p => (match i.f δ with | .ok ys => lcXF c e v j vs δ p ys | _ => .no) | _ => .no := (rfl)
end
end Far
namespace Far
open PySem L2
/-- a method of a text, of one argument -/
def RM1 (K : PySem.W.Frag) (r : V → List V → Hp → VK → Prop) (a : Str) (y : D) (s : S) : Prop := ∀ (He Ge H G : Hp) (σ : St) (δ : List S) (u : V), OKG K He Ge H G σ δ → Rp K G y u →
  ∀ Q : VK, (∀ z H', OK K He Ge H' (some z :: σ) (s :: δ) → Q z H') → r (.str a) [u] H Q
theorem ev_m1 {K : PySem.W.Frag} {δ : List S} {ta tb : TE} {a : Str} {y : D} {s : S} {r : V → List V → Hp → VK → Prop} (ha : EV K ta δ (.d (.str a))) (hb : EV K tb δ (.d y)) (hr : RM1 K r a y s) : EV K (tM1 r ta tb) δ s := by
  intro He Ge H τo τs σ hl ok Q q
  refine ha He Ge H τo τs σ hl ok _ fun v H1 ok1 => ?_
  have hv : v = .str a := by
    obtain ⟨G, ok1⟩ := ok1
    obtain ⟨_, e1, r1⟩ := ok1.top
    cases e1; cases r1; rfl
  subst hv
  refine ⟨⟨a, rfl⟩, hb He Ge H1 (some _ :: τo) (.d (.str a) :: τs) σ (by simp [hl]) ok1 _ fun u H2 ok2 => ?_⟩
  obtain ⟨G, ok2⟩ := ok2
  obtain ⟨_, e1, r1⟩ := ok2.top
  cases e1
  exact hr He Ge H2 G _ _ u ok2.pop.pop r1 Q q
structure OM where
  r : PySem.W.Frag → V → List V → Hp → VK → Prop
  f : Str → D → Option S
  ok : ∀ K a y s, f a y = some s → RM1 K (r K) a y s
section
variable {Hy : PySem.W.Frag → Prop}
def omF (o : OM) (x y : D) : M S := match x with | .str a => .of (o.f a y) | _ => .no
def SE.m1 (o : OM) (a b : SE Hy) : SE Hy where
  t K W := tM1 (o.r K) (a.t K W) (b.t K W)
  f δ := (a.fd δ).bin fun x => (b.fd δ).bin fun y => omF o x y
  ok K hk W δ := by
    cases h : a.fd δ with
    | ok x =>
      rw [M.ok_bin]
      cases h2 : b.fd δ with
      | ok y =>
        rw [M.ok_bin]
        cases x with
        | str z =>
          show EVF K W _ δ (.of (o.f z y))
          cases h3 : o.f z y with
          | none => trivial
          | some s => exact ev_m1 (a.okD hk h) (b.okD hk h2) (o.ok K z y s h3)
        | _ => trivial
      | _ => trivial
    | _ => trivial
end
theorem rpL_strs (K : PySem.W.Frag) (G : Hp) : ∀ l : List Str, RpL K G (l.map D.str) (l.map V.str)
  | [] => .nil
  | _ :: r => .cons .str (rpL_strs K G r)
def strsD : List D → Option (List Str)
  | [] => some [] | .str b :: r => (strsD r).map (b :: ·) | _ => none
theorem strsD_to : ∀ {xs : List D} {bs : List Str}, strsD xs = some bs → xs = bs.map .str
  | [], bs, h => by cases h; rfl
  | x :: r, bs, h => by
    cases x with
    | str b =>
      unfold strsD at h
      obtain ⟨cs, e, rfl⟩ := Option.map_eq_some_iff.mp h
      rw [strsD_to e]; rfl
    | _ => cases h
def chV (x : Str) : List V := x.cps.toList.map fun c => V.str ⟨#[c]⟩
def chD (x : Str) : List D := x.cps.toList.map fun c => D.str ⟨#[c]⟩
theorem jis_str {G : Hp} {x : Str} : JIs G (Its x) (chV x) := fun H e => by
  have hl : (chV x).length = x.cps.size := by unfold chV; rw [List.length_map, Array.length_toList]
  refine ⟨fun i hi => by show i < x.cps.size; omega, fun i v H' ⟨h1, c, h2, h3⟩ => ⟨h1, fun hi => ?_⟩, fun i hi => by show x.cps.size ≤ i; omega⟩
  unfold chV
  rw [List.getElem?_map, Array.getElem?_toList, h2, h3]; rfl
theorem rpL_ch (K : PySem.W.Frag) (G : Hp) : ∀ l : List Nat, RpL K G (l.map fun c => D.str ⟨#[c]⟩) (l.map fun c => V.str ⟨#[c]⟩)
  | [] => .nil
  | _ :: r => .cons .str (rpL_ch K G r)
theorem ei_str {K : PySem.W.Frag} {δ : List S} {te : TE} {x : Str} (h : EV K te δ (.d (.str x))) : EI K (iStr te) δ (chD x) := by
  intro He Ge H τo τs σ hl ok R q
  refine h He Ge H τo τs σ hl ok _ fun v H1 ⟨G, ok1⟩ => ?_
  obtain ⟨_, e1, r1⟩ := ok1.top
  cases e1; cases r1
  exact ⟨x, rfl, q _ H1 G ok1.pop (jig_of (rpL_ch K G _) jis_str)⟩
def SI.str {Hy : PySem.W.Frag → Prop} (e : SE Hy) : SI Hy where
  t K W := iStr (e.t K W)
  f δ := (e.fd δ).bin fun x => match x with | .str z => .ok (chD z) | _ => .no
  ok K hk W δ := by
    cases h : e.fd δ with
    | ok x =>
      rw [M.ok_bin]
      cases x with
      | str xs => exact ei_str (e.okD hk h)
      | _ => trivial
    | _ => trivial
def strIt (x : D) : M (List D) := match x with | .str z => .ok (chD z) | _ => .no
@[simp] theorem SI.str_f {Hy : PySem.W.Frag → Prop} (e : SE Hy) (δ : List S) : (SI.str e).f δ = (e.fd δ).bin strIt := (rfl)
@[simp] theorem strIt_s {z : Str} : strIt (.str z) = .ok (chD z) := (rfl)
section
variable {Hy : PySem.W.Frag → Prop}
@[simp] theorem SE.m1_fs (o : OM) (a b : SE Hy) (δ : List S) : (SE.m1 o a b).f δ = (a.fd δ).bin fun x => (b.fd δ).bin fun y => omF o x y := (rfl)
@[simp] theorem SE.m1_fd (o : OM) (a b : SE Hy) (δ : List S) : (SE.m1 o a b).fd δ = ((a.fd δ).bin fun x => (b.fd δ).bin fun y => omF o x y).bind toD := (rfl)
end
section
variable {X : Cx} {o e : Expr} {to te : TE}
end
end Far
namespace Far
open PySem L2
end Far
namespace Far
open PySem L2 PySem.Spec PyProof.Rows
section
variable {X : Cx} {e : Expr} {es : List Expr} {te : TE} {ta : TA} {p1 p2 pos : Pos}
end
section
variable {P : Program} {w : World} {K : PySem.W.Frag} {mg : Str → Option Value} {base : Heap}
end
section
variable {K : PySem.W.Frag} {δ : List S} {te : TE} {x : D} {C : Addr} {f : Str} {W : WX} {N B Ct : List S → Prop} {Rt : S → List S → Prop} {Xc : List S → Addr → List (Str × D) → Prop}
end
section
variable {Hy : PySem.W.Frag → Prop}
end
end Far
namespace PySem.W
open PySem PySem.Spec PySem.Calls PyProof.Rows
section
variable {prog : Program} {w : World} {A : Around} {E : Value → Shared → Prop} {s : Shared} {K : Frag} {x D : Addr} {ox od : Obj}
end
end PySem.W
namespace Far
open PySem L2 PySem.Spec PyProof.Rows
section
variable {Hy : PySem.W.Frag → Prop}
end
end Far
namespace Far
open PySem L2 PySem.Spec PyProof.Rows
section
variable {Hy : PySem.W.Frag → Prop}
end
section
variable {X : Cx}
end
section
variable {K : PySem.W.Frag} {δ : List S} {te : TE}
variable {Hy : PySem.W.Frag → Prop}
end
end Far
namespace Far
open PySem L2 PySem.Spec PyProof.Rows
section
variable {X : Cx}
end
section
variable {K : PySem.W.Frag} {δ : List S} {te : TE} {x : D} {C : Addr} {f : Str}
end
section
variable {Hy : PySem.W.Frag → Prop}
end
end Far
namespace Far
open PySem L2 PySem.Spec PyProof.Rows
def TupObj (o : Obj) (ws : List Str) : Prop := ∃ (its : Array Value) (n : Nat), o.cls = .type "tuple" ∧ o.dict = none ∧ o.data = .seq its n ∧ its.size ≤ sizeLine ∧ Vals (ws.map V.str) its.toList
def KTup (K : PySem.W.Frag) (a : Addr) (ws : List Str) : Prop := ∃ o, K.lookup a = some o ∧ TupObj o ws
section
variable {K : PySem.W.Frag} {δ : List S}
theorem rpL_strK (K : PySem.W.Frag) (G : Hp) : ∀ ws : List Str, RpL K G (ws.map D.str) (ws.map V.str)
  | [] => .nil
  | _ :: r => .cons .str (rpL_strK K G r)
theorem ev_tupK {a : Addr} {ws : List Str} (h : KTup K a ws) : EV K (tC (.ref a)) δ (.d (.tup (ws.map D.str))) := by
  obtain ⟨o, h1, its, n, h2, h3, h4, h5, h6⟩ := h
  intro He Ge H τo τs σ hl ok Q q
  obtain ⟨G, ok⟩ := ok
  exact q _ _ ⟨G, ok.pushD (.tup (.inr ⟨o, its, n, h1, h2, h3, h4, h5, h6⟩) (rpL_strK K G ws))⟩
variable {Hy : PySem.W.Frag → Prop}
def SE.tupK (a : Addr) (ws : List Str) (h : ∀ K, Hy K → KTup K a ws) : SE Hy where
  t K W := tC (.ref a)
  f δ := .ok (.d (.tup (ws.map D.str)))
  ok K hk W δ := ev_tupK (h K hk)
@[simp] theorem SE.tupK_f (a : Addr) (ws : List Str) (h : ∀ K, Hy K → KTup K a ws) (δ : List S) : (SE.tupK a ws h).f δ = .ok (.d (.tup (ws.map D.str))) := (rfl)
@[simp] theorem SE.tupK_fd (a : Addr) (ws : List Str) (h : ∀ K, Hy K → KTup K a ws) (δ : List S) : (SE.tupK a ws h).fd δ = .ok (.tup (ws.map D.str)) := (rfl)
end
end Far
namespace Far
open PySem L2 PySem.Spec PyProof.Rows
section
variable {X : Cx} {pins : List (Addr × Obj)} {σ : L2.St} {H : Hp} {s : Shared}
end
section
variable {X : Cx} {pins : List (Addr × Obj)} {σ : L2.St} {s : Shared} {sp : Sp} {E : XK} {f kS a : Addr} {fd : FuncData} {ps : List Str} {k : Nat} {E0 : Value → Shared → Prop}
end
end Far
namespace Far
open PySem L2 PyProof.Rows
section
variable {α : Type}
end
section
variable {α β : Type} {R : α → β → Prop}
end
section
variable {K : PySem.W.Frag} {δ : List S} {F : List D → M S} {ta : TA} {s : S} {E : XK}
end
section
variable {K : PySem.W.Frag} {δ : List S} {F : List D → M S} {ta : TA} {s : S} {E : XK}
variable {Hy : PySem.W.Frag → Prop}
end
end Far
namespace Far
open PySem L2
def rInsert : V → List V → Hp → VK → Prop := fun x vs H Q => ∃ (l : Addr) (xs : List V) (i : Int) (y : V), x = .ref l ∧ vs = [.int i, y] ∧ H l = some (.lst xs) ∧ xs.length < sizeLine ∧ 0 ≤ i ∧ i < 2 ^ 63 ∧
    Q .non (upd H l (.lst (xs.take i.toNat ++ [y] ++ xs.drop i.toNat)))
theorem RpL.takeL {K : PySem.W.Frag} {G : Hp} : ∀ {xs : List D} {vs : List V} (n : Nat), RpL K G xs vs → RpL K G (xs.take n) (vs.take n)
  | _, _, 0, _ => by simp only [List.take_zero]; exact .nil
  | _, _, n + 1, .nil => by simp only [List.take_nil]; exact .nil
  | _, _, n + 1, .cons h r => by rw [List.take_succ_cons, List.take_succ_cons]; exact .cons h (r.takeL n)
theorem RpL.dropL {K : PySem.W.Frag} {G : Hp} : ∀ {xs : List D} {vs : List V} (n : Nat), RpL K G xs vs → RpL K G (xs.drop n) (vs.drop n)
  | _, _, 0, h => h
  | _, _, n + 1, .nil => by simp only [List.drop_nil]; exact .nil
  | _, _, n + 1, .cons h r => by rw [List.drop_succ_cons, List.drop_succ_cons]; exact r.dropL n
section
variable {K : PySem.W.Frag} {E : WX} {δ : List S} {ta : TA} {xs : List D} {j : Int} {y : D} {N B C : List S → Prop} {R : S → List S → Prop} {X : List S → Addr → List (Str × D) → Prop}
theorem sd_insert {i : Nat} (hi : δ[i]? = some (.own xs)) (h : EA K ta δ [.int j, y]) (hz : xs.length < sizeLine) (h0 : 0 ≤ j) (h1 : j < 2 ^ 63) (n : N (δ.set i (.own (xs.take j.toNat ++ [y] ++ xs.drop j.toNat)))) : SD K E (tDrop (tBM K "list" rInsert (tVar i) ta)) δ N R B C X := by
  intro He Ge H σ Dn ok nx r bk ct xx
  obtain ⟨G, okk⟩ := id ok
  obtain ⟨o, eo, p, vs, rfl, _, _, h3, rv⟩ := okk.sl i _ hi
  refine ⟨_, eo, .inl ⟨rfl, _, SqL.of h3⟩, ?_⟩
  refine h He Ge H [] [] σ rfl ok _ fun us H' G' ok' ru => ?_
  have ok' : OKG K He Ge H' G' σ δ := ok'
  obtain ⟨o2, eo2, p2, vs2, e2, k1, k2, k3, rv2⟩ := ok'.sl i (.own xs) hi
  rw [eo] at eo2
  cases eo2
  cases e2
  cases ru with
  | cons r1 ru =>
    cases r1
    cases ru with
    | cons ry ru =>
      cases ru
      refine ⟨p, vs2, j, _, rfl, rfl, k3, by rw [← rv2.length]; exact hz, h0, h1, ?_⟩
      exact nx _ _ _ ⟨G', OKG.change ok' hi eo k3 (((rv2.takeL j.toNat).append (.cons ry .nil)).append (rv2.dropL j.toNat))⟩ n
end
section
variable {Hy : PySem.W.Frag → Prop}
def insF (δ : List S) (i : Nat) (xs ys : List D) : Fl := match ys with
  | [.int j, y] => if xs.length < sizeLine ∧ 0 ≤ j ∧ j < 2 ^ 63 then .nx (δ.set i (.own (xs.take j.toNat ++ [y] ++ xs.drop j.toNat))) else .no
  | _ => .no
/-- xs.insert(j, y) -/
def SS.ins (i : Nat) (a : SA Hy) : SS Hy where
  t K W := tDrop (tBM K "list" rInsert (tVar i) (a.t K W))
  f δ := Fl.exn (ow δ i) fun xs => Fl.exn (a.f δ) fun ys => insF δ i xs ys
  ok K hk W δ := by
    cases h : ow δ i with
    | ok xs =>
      rw [Fl.ok_exn]
      cases h2 : a.f δ with
      | ok ys =>
        rw [Fl.ok_exn]
        unfold insF
        split
        · split
          · rename_i z
            exact sd_insert (ow_ok h) (a.okA hk h2) z.1 z.2.1 z.2.2 rfl
          · trivial
        · trivial
      | _ => trivial
    | _ => trivial
@[simp] theorem SS.ins_f (i : Nat) (a : SA Hy) (δ : List S) : (SS.ins i a).f δ = Fl.exn (ow δ i) fun xs => Fl.exn (a.f δ) fun ys => insF δ i xs ys := (rfl)
end
end Far
namespace Far
open PySem L2
section
variable {K : PySem.W.Frag}
/-- the parts of a display, each with its slot -/
def EAS (K : PySem.W.Frag) (ta : TA) (δ ss : List S) : Prop := ∀ (He Ge H : Hp) (τo : St) (τs : List S) (σ : St), τo.length = τs.length → OK K He Ge H (τo ++ σ) (τs ++ δ) →
  ∀ Q : List V → Hp → Prop, (∀ vs H', vs.length = ss.length → OK K He Ge H' ((vs.map some).reverse ++ (τo ++ σ)) (ss.reverse ++ (τs ++ δ)) → Q vs H') → ta σ H Q
theorem eas_nil {δ : List S} : EAS K tNil δ [] := fun He Ge H τo τs σ hl ok Q q => q [] H rfl ok
theorem eas_cons {te : TE} {tr : TA} {δ ss : List S} {s : S} (h : EV K te δ s) (hr : EAS K tr δ ss) : EAS K (tCons te tr) δ (s :: ss) := by
  intro He Ge H τo τs σ hl ok Q q
  refine h He Ge H τo τs σ hl ok _ fun v H1 ok1 => ?_
  refine hr He Ge H1 (some v :: τo) (s :: τs) σ (by simp [hl]) ok1 _ fun vs H2 hv ok2 => ?_
  exact q (v :: vs) H2 (by simp [hv]) (by simpa using ok2)
theorem OKG.drop {He Ge H G : Hp} : ∀ {τo : St} {τs : List S} {σ : St} {δ : List S}, τo.length = τs.length → OKG K He Ge H G (τo ++ σ) (τs ++ δ) → OKG K He Ge H G σ δ
  | [], [], _, _, _, h => h
  | _ :: _, _ :: _, _, _, l, h => OKG.drop (Nat.succ.inj l) (OKG.pop h)
/-- slots that none of these changed: the same value, the same data; or data without a list -/
def Fr (σ1 : St) (δ1 : List S) (σ' : St) (δ' : List S) : Prop := ∀ j : Nat, (σ'[j]? = σ1[j]? ∧ δ'[j]? = δ1[j]?) ∨ ∃ x, δ'[j]? = some (.d x) ∧ rfo [] false x = true
theorem Fr.refl {σ : St} {δ : List S} : Fr σ δ σ δ := fun _ => .inl ⟨rfl, rfl⟩
theorem Fr.trans {σ1 σ2 σ3 : St} {δ1 δ2 δ3 : List S} (a : Fr σ1 δ1 σ2 δ2) (b : Fr σ2 δ2 σ3 δ3) : Fr σ1 δ1 σ3 δ3 := fun j => by
  rcases b j with ⟨e1, e2⟩ | h
  · rcases a j with ⟨e3, e4⟩ | ⟨x, e3, e4⟩
    · exact .inl ⟨e1.trans e3, e2.trans e4⟩
    · exact .inr ⟨x, e2.trans e3, e4⟩
  · exact .inr h
def SDr (K : PySem.W.Frag) (E : WX) (t : TS) (δ : List S) (N : List S → Prop) (R : S → List S → Prop) (B C : List S → Prop) (X : List S → Addr → List (Str × D) → Prop) : Prop := ∀ (He Ge H : Hp) (σ : St) (Dn : Ends), OK K He Ge H σ δ →
  (∀ δ' σ' H', OK K He Ge H' σ' δ' → Fr σ δ σ' δ' → N δ' → Dn.nx σ' H') → (∀ v s σ' δ' H', OKr K He Ge H' v σ' s δ' → R s δ' → Dn.rt v H') →
  (∀ δ' σ' H', OK K He Ge H' σ' δ' → B δ' → Dn.bk σ' H') → (∀ δ' σ' H', OK K He Ge H' σ' δ' → C δ' → Dn.ct σ' H') →
  (∀ c fs cls d G' σ' δ' H', OKG K He Ge H' G' σ' δ' → XOk K G' H' c fs cls d → X δ' c fs → E cls d σ' H') → t Dn σ H
def SMR (K : PySem.W.Frag) (W : WX) (t : TS) (δ : List S) (r : Fl) : Prop := SDr K W t δ (fun δ' => r = .nx δ') (fun s δ' => r = .rt s ∨ r = .rto s δ') (fun δ' => r = .bk δ') (fun δ' => r = .ct δ') (fun δ' c fs => r = .ex δ' c fs)
def SMF (K : PySem.W.Frag) (W : WX) (t : TS) (δ : List S) : Fl → Prop
  | .no => True | r => SMR K W t δ r
theorem smf_of {W : WX} {t : TS} {δ : List S} {r : Fl} (h : r ≠ .no → SMR K W t δ r) : SMF K W t δ r := by
  cases r with
  | no => trivial
  | _ => exact h (fun z => nomatch z)
theorem smf_to {W : WX} {t : TS} {δ : List S} {r : Fl} (h : SMF K W t δ r) (n : r ≠ .no) : SMR K W t δ r := by
  cases r with
  | no => exact (n rfl).elim
  | _ => exact h
/-- what never goes on -/
theorem smr_of {W : WX} {t : TS} {δ : List S} {r : Fl} (h : SDR K W t δ r) (n : ∀ δ', r ≠ .nx δ') : SMR K W t δ r := fun He Ge H σ Dn ok nx rt bk ct xx =>
  h He Ge H σ Dn ok (fun δ' σ' H' _ e => (n δ' e).elim) rt bk ct xx
end
variable {Hy : PySem.W.Frag → Prop}
/-- statements that are told with what they leave as it was -/
structure SM (Hy : PySem.W.Frag → Prop) where
  t : PySem.W.Frag → WX → TS
  f : List S → Fl
  ok : ∀ K, Hy K → ∀ W δ, SMF K W (t K W) δ (f δ)
def SM.skip : SM Hy where
  t _ _ := tNext
  f δ := .nx δ
  ok K hk W δ := fun He Ge H σ Dn ok nx rt bk ct xx => nx δ σ H ok .refl rfl
def SM.set (i : Nat) (e : SE Hy) : SM Hy where
  t K W := tAsg (e.t K W) (gName i)
  f δ := Fl.exp (e.fd δ) δ fun x => if i < δ.length ∧ rfo [] false x = true then .nx (δ.set i (.d x)) else .no
  ok K hk W δ := by
    cases h : e.fd δ with
    | no => trivial
    | ex c fs => exact smr_of (sd_asgX (e.exD hk h) rfl) fun _ z => nomatch z
    | ok x =>
      rw [Fl.ok_exp]
      by_cases z : i < δ.length ∧ rfo [] false x = true
      · rw [if_pos z]
        intro He Ge H σ Dn ok nx rt bk ct xx
        refine ev0 (e.okD hk h) ok fun v H' ⟨G', ok'⟩ => ?_
        refine nx _ _ _ ⟨G', ok'.store z.1⟩ (fun j => ?_) rfl
        by_cases q : i = j
        · subst q
          exact .inr ⟨x, by rw [List.getElem?_set_self z.1], z.2⟩
        · exact .inl ⟨by rw [List.getElem?_set_ne q], by rw [List.getElem?_set_ne q]⟩
      · rw [if_neg z]; trivial
def SM.seq (a b : SM Hy) : SM Hy where
  t K W := tSeq (a.t K W) (b.t K W)
  f δ := (a.f δ).next b.f
  ok K hk W δ := by
    refine smf_of fun n => ?_
    have na : a.f δ ≠ .no := fun z => n (by rw [z]; rfl)
    have ha := smf_to (a.ok K hk W δ) na
    intro He Ge H σ Dn ok nx rt bk ct xx
    refine ha He Ge H σ _ ok (fun δ' σ' H' ok' fr e => ?_) (fun v s σ' δ' H' ok' e => rt v s σ' δ' H' ok' ?_) (fun δ' σ' H' ok' e => bk δ' σ' H' ok' (by rw [e]; rfl)) (fun δ' σ' H' ok' e => ct δ' σ' H' ok' (by rw [e]; rfl)) (fun c fs cls d G' σ' δ' H' ok' k e => xx c fs cls d G' σ' δ' H' ok' k (by rw [e]; rfl))
    · rw [e] at n nx rt bk ct xx
      exact smf_to (b.ok K hk W δ') n He Ge H' σ' Dn ok' (fun δ2 σ2 H2 ok2 fr2 e2 => nx δ2 σ2 H2 ok2 (fr.trans fr2) e2) rt bk ct xx
    · rcases e with e | e
      · rw [e]; exact .inl rfl
      · rw [e]; exact .inr rfl
def SM.ite (c : ST Hy) (a b : SM Hy) : SM Hy where
  t K W := tIfS (c.t K W) (a.t K W) (b.t K W)
  f δ := Fl.exn (c.f δ) fun k => if k = true then a.f δ else b.f δ
  ok K hk W δ := by
    cases h : c.f δ with
    | ok k =>
      rw [Fl.ok_exn]
      refine smf_of fun n => ?_
      intro He Ge H σ Dn ok nx rt bk ct xx
      refine eb0 (c.okB hk h) ok fun H' ok' => ?_
      cases k with
      | true =>
        rw [if_pos rfl] at n nx rt bk ct xx
        exact iteT (smf_to (a.ok K hk W δ) n He Ge H' σ Dn ok' nx rt bk ct xx)
      | false =>
        rw [if_neg (fun z => nomatch z)] at n nx rt bk ct xx
        exact iteF (smf_to (b.ok K hk W δ) n He Ge H' σ Dn ok' nx rt bk ct xx)
    | _ => trivial
/-- a statement behind which nothing goes on -/
def SM.out (s : SS Hy) : SM Hy where
  t K W := s.t K W
  f δ := match s.f δ with | .nx _ => .no | r => r
  ok K hk W δ := by
    have h := s.ok K hk W δ
    cases e : s.f δ with
    | no => trivial
    | nx δ' => trivial
    | _ => rw [e] at h; exact smr_of h fun _ z => nomatch z
structure SN (Hy : PySem.W.Frag → Prop) where
  t : PySem.W.Frag → WX → TA
  f : List S → M (List S)
  ok : ∀ K, Hy K → ∀ W δ ss, f δ = .ok ss → EAS K (t K W) δ ss
def SN.nil : SN Hy := ⟨fun _ _ => tNil, fun _ => .ok [], fun K hk W δ ss h => by cases h; exact eas_nil⟩
def SN.cons (e : SE Hy) (r : SN Hy) : SN Hy where
  t K W := tCons (e.t K W) (r.t K W)
  f δ := (e.f δ).bin fun s => (r.f δ).bin fun ss => .ok (s :: ss)
  ok K hk W δ ss h := by
    cases h1 : e.f δ with
    | ok s =>
      rw [h1, M.ok_bin] at h
      cases h2 : r.f δ with
      | ok us => rw [h2, M.ok_bin] at h; cases h; exact eas_cons (e.okS hk h1) (r.ok K hk W δ us h2)
      | no => rw [h2] at h; cases h
      | ex c fs => rw [h2] at h; cases h
    | no => rw [h1] at h; cases h
    | ex c fs => rw [h1] at h; cases h
section
variable {K : PySem.W.Frag}
def MUJ (K : PySem.W.Frag) (t : TS) (i : Nat) (gs δ gs' δ' : List S) : Prop := ∀ (He Ge H G : Hp) (vs : List V) (σ : St) (q : Addr) (Dn : Ends), vs.length = gs.length → OKG K He Ge H G ((vs.map some).reverse ++ σ) (gs.reverse ++ δ) →
  σ[i]? = some (some (.ref q)) → G q = some (.lst vs) → (∀ H' G' σ', OKG K He Ge H' G' ((vs.map some).reverse ++ σ') (gs'.reverse ++ δ') → σ'[i]? = some (some (.ref q)) → G' q = some (.lst vs) → gs'.length = gs.length → Dn.nx σ' H') → t Dn σ H
theorem rev_set {α : Type} {l : List α} {k : Nat} {s : α} (h : k < l.length) : (l.set k s).reverse = l.reverse.set (l.length - 1 - k) s := by
  apply List.ext_getElem?
  intro i
  by_cases hi : i < l.length
  · rw [List.getElem?_reverse (by rw [List.length_set]; exact hi), List.length_set]
    by_cases e : k = l.length - 1 - i
    · have e2 : l.length - 1 - k = i := by omega
      rw [← e, List.getElem?_set_self h, e2, List.getElem?_set_self (by rw [List.length_reverse]; exact hi)]
    · rw [List.getElem?_set_ne e, List.getElem?_set_ne (by omega), List.getElem?_reverse hi]
  · rw [List.getElem?_eq_none (by rw [List.length_reverse, List.length_set]; omega), List.getElem?_eq_none (by rw [List.length_set, List.length_reverse]; omega)]
theorem gh_at {gs δ : List S} {vs : List V} {σ : St} {k : Nat} {s : S} (hv : vs.length = gs.length) (h : gs[k]? = some s) : ∃ v, vs[k]? = some v ∧ (gs.reverse ++ δ)[gs.length - 1 - k]? = some s ∧ ((vs.map some).reverse ++ σ)[gs.length - 1 - k]? = some (some v) := by
  have hk : k < gs.length := (List.getElem?_eq_some_iff.mp h).1
  have hkv : k < vs.length := by omega
  refine ⟨vs[k], List.getElem?_eq_getElem hkv, ?_, ?_⟩
  · rw [List.getElem?_append_left (by rw [List.length_reverse]; omega), List.getElem?_reverse (by omega), show gs.length - 1 - (gs.length - 1 - k) = k by omega, h]
  · rw [List.getElem?_append_left (by rw [List.length_reverse, List.length_map]; omega), List.getElem?_reverse (by rw [List.length_map]; omega), List.length_map, show vs.length - 1 - (gs.length - 1 - k) = k by omega, List.getElem?_map, List.getElem?_eq_getElem hkv]; rfl
/-- the list at k becomes another one -/
theorem gh_change {He Ge H G : Hp} {gs δ : List S} {vs : List V} {σ : St} {k : Nat} {xs ys : List D} {p : Addr} {ws us : List V} (ok : OKG K He Ge H G ((vs.map some).reverse ++ σ) (gs.reverse ++ δ)) (hv : vs.length = gs.length) (h : gs[k]? = some (.own xs)) (hp : vs[k]? = some (.ref p))
    (hl : H p = some (.lst ws)) (r : RpL K G ys us) : OKG K He Ge (upd H p (.lst us)) G ((vs.map some).reverse ++ σ) ((gs.set k (.own ys)).reverse ++ δ) := by
  obtain ⟨v, e1, e2, e3⟩ := gh_at (δ := δ) (σ := σ) hv h
  rw [hp] at e1; cases e1
  have hk : k < gs.length := (List.getElem?_eq_some_iff.mp h).1
  have := ok.change e2 e3 hl r
  rw [List.set_append_left _ _ (by rw [List.length_reverse]; omega)] at this
  rw [rev_set hk]; exact this
theorem gh_own {He Ge H G : Hp} {gs δ : List S} {vs : List V} {σ : St} {k : Nat} {xs : List D} (ok : OKG K He Ge H G ((vs.map some).reverse ++ σ) (gs.reverse ++ δ)) (hv : vs.length = gs.length) (h : gs[k]? = some (.own xs)) : ∃ p ws, vs[k]? = some (.ref p) ∧ H p = some (.lst ws) ∧ RpL K G xs ws ∧ G p = none := by
  obtain ⟨v, e1, e2, e3⟩ := gh_at (δ := δ) (σ := σ) hv h
  obtain ⟨o, eo, p, ws, rfl, k1, k2, k3, r⟩ := ok.sl _ _ e2
  rw [e3] at eo; cases eo
  exact ⟨p, ws, e1, k3, r, k2⟩
theorem atI_nat {vs : List V} {k : Nat} {v : V} (h : vs[k]? = some v) : L2.atI vs (k : Int) = some v := by
  have hk : k < vs.length := (List.getElem?_eq_some_iff.mp h).1
  unfold L2.atI L2.ixN
  simp only [Int.natCast_nonneg]
  simp [hk, h]
  exact (List.getElem?_eq_some_iff.mp h).2
end
structure MU (Hy : PySem.W.Frag → Prop) (i : Nat) where
  t : PySem.W.Frag → WX → TS
  f : List S → List S → Option (List S × List S)
  ok : ∀ K, Hy K → ∀ W gs δ gs' δ', f gs δ = some (gs', δ') → MUJ K (t K W) i gs δ gs' δ'
def MU.seq {i : Nat} (a b : MU Hy i) : MU Hy i where
  t K W := tSeq (a.t K W) (b.t K W)
  f gs δ := (a.f gs δ).bind fun r => b.f r.1 r.2
  ok K hk W gs δ gs' δ' h := by
    obtain ⟨⟨g1, d1⟩, h1, h2⟩ := Option.bind_eq_some_iff.mp h
    intro He Ge H G vs σ q Dn hv ok hq hG nx
    exact a.ok K hk W gs δ g1 d1 h1 He Ge H G vs σ q _ hv ok hq hG fun H' G' σ' ok' hq' hG' hl => b.ok K hk W g1 d1 gs' δ' h2 He Ge H' G' vs σ' q Dn (hv.trans hl.symm) ok' hq' hG' fun H2 G2 σ2 ok2 hq2 hG2 hl2 => nx H2 G2 σ2 ok2 hq2 hG2 (hl2.trans hl)
/-- h[k].append(e) -/
def MU.app {i : Nat} (k : Nat) (e : SE Hy) : MU Hy i where
  t K W := tDrop (tBM K "list" rAppend (tOp (rIx K) (tVar i) (tC (.int (k : Int)))) (tCons (e.t K W) tNil))
  f gs δ := match gs[k]?, e.fd δ with | some (.own xs), .ok x => if xs.length < sizeLine then some (gs.set k (.own (xs ++ [x])), δ) else none | _, _ => none
  ok K hk W gs δ gs' δ' h := by
    split at h
    · rename_i xs x h1 h2
      split at h
      · rename_i hz
        cases h
        intro He Ge H G vs σ q Dn hv ok hq hG nx
        obtain ⟨p, ws, ep, hp, r, _⟩ := gh_own ok hv h1
        refine ⟨.ref q, hq, .inl ⟨q, vs, (k : Int), .ref p, rfl, rfl, .inl (.inl (ok.gh _ _ hG)), atI_nat ep, ?_⟩⟩
        have hp' : vs[k]? = some (.ref p) := ep
        refine ⟨.inl ⟨rfl, _, SqL.of hp⟩, ?_⟩
        have hl : ((vs.map some).reverse : St).length = gs.reverse.length := by rw [List.length_reverse, List.length_map, List.length_reverse]; exact hv
        refine (e.okD hk h2) He G H _ _ σ hl ⟨G, ok.ground⟩ _ fun v H' ⟨G', ok'⟩ => ?_
        have rv := ok'.top
        obtain ⟨_, ev, rv⟩ := rv
        cases ev
        have ok2 := ok.unground ok'.pop
        obtain ⟨p2, ws2, ep2, hp2, r2, _⟩ := gh_own ok2 hv h1
        rw [hp'] at ep2; cases ep2
        refine ⟨p, ws2, v, rfl, rfl, hp2, by rw [← r2.length]; exact hz, ?_⟩
        exact nx _ _ _ (gh_change ok2 hv h1 hp' hp2 (r2.append (.cons rv .nil))) hq (ok'.ge _ _ hG) (List.length_set ..)
      · cases h
    · cases h
section
variable {K : PySem.W.Frag}
end
@[simp] theorem SN.nil_f (δ : List S) : (SN.nil : SN Hy).f δ = .ok [] := (rfl)
@[simp] theorem SN.cons_f (e : SE Hy) (r : SN Hy) (δ : List S) : (SN.cons e r).f δ = (e.f δ).bin fun s => (r.f δ).bin fun ss => .ok (s :: ss) := (rfl)
@[simp] theorem SM.skip_f (δ : List S) : (SM.skip : SM Hy).f δ = .nx δ := (rfl)
@[simp] theorem SM.set_f (i : Nat) (e : SE Hy) (δ : List S) : (SM.set i e).f δ = Fl.exp (e.fd δ) δ fun x => if i < δ.length ∧ rfo [] false x = true then .nx (δ.set i (.d x)) else .no := (rfl)
@[simp] theorem SM.seq_f (a b : SM Hy) (δ : List S) : (SM.seq a b).f δ = (a.f δ).next b.f := (rfl)
@[simp] theorem SM.ite_f (c : ST Hy) (a b : SM Hy) (δ : List S) : (SM.ite c a b).f δ = Fl.exn (c.f δ) fun k => if k = true then a.f δ else b.f δ := (rfl)
def outF : Fl → Fl | .nx _ => .no | r => r
@[simp] theorem outF_rt (s : S) : outF (.rt s) = .rt s := (rfl)
@[simp] theorem outF_ct (δ : List S) : outF (.ct δ) = .ct δ := (rfl)
@[simp] theorem SM.out_f (s : SS Hy) (δ : List S) : (SM.out s).f δ = outF (s.f δ) := (rfl)
@[simp] theorem MU.seq_f {i : Nat} (a b : MU Hy i) (gs δ : List S) : (MU.seq a b).f gs δ = (a.f gs δ).bind fun r => b.f r.1 r.2 := (rfl)
def muApp (k : Nat) (gs δ : List S) : Option S → M D → Option (List S × List S)
  | some (.own xs), .ok x => if xs.length < sizeLine then some (gs.set k (.own (xs ++ [x])), δ) else none
  | _, _ => none
@[simp] theorem MU.app_f {i : Nat} (k : Nat) (e : SE Hy) (gs δ : List S) : (MU.app k e : MU Hy i).f gs δ = muApp k gs δ gs[k]? (e.fd δ) := (rfl)
@[simp] theorem muApp_own {k : Nat} {gs δ : List S} {xs : List D} {x : D} (h : xs.length < 16777216) : muApp k gs δ (some (.own xs)) (.ok x) = some (gs.set k (.own (xs ++ [x])), δ) := if_pos (by rw [sizeLine_eq]; exact h)
@[simp] theorem owned_un : owned .un = false := (rfl)
@[simp] theorem owned_dd {x : D} : owned (.d x) = false := (rfl)
end Far
namespace Far
open PySem L2 PySem.Spec PyProof.Rows
abbrev txK (P : Program) (w : World) := PySem.strKind P w
def GoodTx (w : World) (e : Int × Value) : Prop := ∃ k tk, e.2 = Value.str k tk ∧ e.1 = hashStr w k
/-- the set of texts at a, T what is in it, m how many; one can go through it -/
def SetTx (P : Program) (w : World) (h : Heap) (a : Addr) (T : Str → Bool) (m : Nat) : Prop :=
  ∃ ob xs ep tb, h.get? a = some ob ∧ ob.ExactSet ∧ ob.data = .set xs ep tb ∧ (∀ e ∈ xs.toList, GoodTx w e) ∧ (xs.toList.map fun e => strOf e.2).Nodup ∧ (∀ k, T k = true ↔ k ∈ xs.toList.map fun e => strOf e.2) ∧
    xs.size < scanBound ∧ tb.fits xs.size = true ∧ xs.size = m ∧ Ris tb.place.toList ∧ (w.params.followText "set-order" = true ∨ tb.led = true)
section
variable {P : Program} {w : World} {h h' : Heap} {a : Addr} {T : Str → Bool} {m : Nat}
theorem SetTx.at (R : SetTx P w h a T m) (k : ∀ o, h.get? a = some o → h'.get? a = some o) : SetTx P w h' a T m := by
  obtain ⟨ob, xs, ep, tb, z, r⟩ := R; exact ⟨ob, xs, ep, tb, k ob z, r⟩
theorem SetTx.congr {T' : Str → Bool} (R : SetTx P w h a T m) (e : ∀ k, T' k = T k) : SetTx P w h a T' m := by
  have z : T' = T := funext e
  exact z ▸ R
theorem goodTx_is {e : Int × Value} (g : GoodTx w e) (k : Str) : (txK P w).is k e.2 = true ↔ strOf e.2 = k := by
  obtain ⟨k0, tk, z, _⟩ := g
  rw [z]
  show ((k0 == k) = true) ↔ k0 = k
  exact beq_iff_eq
theorem goodTx_elems {l : List (Int × Value)} (g : ∀ e ∈ l, GoodTx w e) : ElemsOf (txK P w) l := fun e he => by
  have ge := g e he
  obtain ⟨k, tk, z1, z2⟩ := id ge
  exact ⟨⟨k, (goodTx_is (P := P) ge k).mpr (by rw [z1]; rfl), z2⟩, by rw [z1]; rfl⟩
theorem goodTx_mem {l : List (Int × Value)} (g : ∀ e ∈ l, GoodTx w e) (k : Str) : (k ∈ l.map fun e => strOf e.2) ↔ ∃ e ∈ l, (txK P w).is k e.2 = true := by
  rw [List.mem_map]
  exact ⟨fun ⟨e, he, q⟩ => ⟨e, he, (goodTx_is (g e he) k).mpr q⟩, fun ⟨e, he, q⟩ => ⟨e, he, (goodTx_is (g e he) k).mp q⟩⟩
theorem setTx_new_at {ns : List Str} (z : h.get? a = some { cls := .type "set", dict := none, data := .set #[] 0 (.fresh 0 0 (!w.params.followText "set-order")) }) : SetTx P w h a (fun j => decide (j ∈ ns.take 0)) 0 := by
  refine ⟨_, #[], 0, _, z, ⟨rfl, rfl, rfl⟩, rfl, fun e he => ?_, ?_, fun k => ?_, by decide, rfl, rfl, List.Pairwise.nil, ?_⟩
  · simp at he
  · simp
  · simp
  · show _ ∨ (!w.params.followText "set-order") = true
    cases w.params.followText "set-order" <;> simp
theorem txt_at14 {vs : List Value} {ss : List Str} (r : StrsAre vs ss) : ∀ (i : Nat) (v : Value), vs[i]? = some v → ∃ k t, ss[i]? = some k ∧ v = Value.str k t := by
  induction r with
  | nil => intro i v e; simp at e
  | cons x t r ih =>
    intro i v e
    cases i with
    | zero => simp at e; exact ⟨x, t, rfl, e.symm⟩
    | succ i => exact ih i v (by simpa using e)
end
section
variable {P : Program} {w : World} {A : Around} {E : Value → Shared → Prop} {s : Shared} {a : Addr} {T : Str → Bool} {m : Nat}
theorem setTx_tail {gw : Bool → Sem Unit} (hg : ∀ (b : Bool) (s1 : Shared) (Q1 : Unit → Shared → Prop), Q1 () s1 → wpAny (model P w) A (gw b) Q1 E s1)
    {ob : Obj} {xs : Array (Int × Value)} {ep : Nat} {tb : SetTable} (z : s.heap.get? a = some ob) (zx : ob.ExactSet) (zd : ob.data = .set xs ep tb)
    {ys : Array (Int × Value)} {t2 : SetTable} {T' : Str → Bool} (g1 : ∀ e ∈ ys.toList, GoodTx w e) (nd1 : (ys.toList.map fun e => strOf e.2).Nodup) (m1 : ∀ k, T' k = true ↔ k ∈ ys.toList.map fun e => strOf e.2)
    (b1 : ys.size < scanBound) (f1 : t2.fits ys.size = true) (r1 : Ris t2.place.toList) (l1 : w.params.followText "set-order" = true ∨ t2.led = true) {dm : Bool} {R : Option Bool → Shared → Prop}
    (hR : ∀ h', Heap.SameBut a s.heap h' → SetTx P w h' a T' ys.size → R (some true) { s with heap := h' }) :
    wpAny (model P w) A (do
        storeSet a ys t2
        if (!dm && t2.tooFull) = true then do
            gw (relayAll t2 ys (SetTable.grown ys.size)).2.2
            storeSet a (relayAll t2 ys (SetTable.grown ys.size)).1 (relayAll t2 ys (SetTable.grown ys.size)).2.1
            pure (some true)
          else pure (some true)) R E s := by
  refine wpAny_bind (wpAny_storeSet_of z zd ?_ (fits_of_scanBound b1))
  have z1 := store_at (es' := ys) (t' := t2) z zd
  have sb := Heap.SameBut.update s.heap a (Obj.putSet ys t2)
  split
  · have pm := relayAll_perm t2 ys (SetTable.grown ys.size)
    have f3 := relayAll_fits t2 ys (SetTable.grown ys.size)
    have r3 := relayAll_ris t2 ys (SetTable.grown ys.size)
    have l3 := relayAll_led t2 ys (SetTable.grown ys.size)
    generalize relayAll t2 ys (SetTable.grown ys.size) = Z at pm f3 r3 l3 ⊢
    obtain ⟨us, t3, gave⟩ := Z
    dsimp only at pm f3 r3 l3 ⊢
    have sz : us.size = ys.size := by rw [← Array.length_toList, pm.length_eq, Array.length_toList]
    have b2 : us.size < scanBound := by omega
    refine wpAny_bind (hg _ _ _ ?_)
    refine wpAny_bind (wpAny_storeSet_of z1 rfl ?_ (fits_of_scanBound b2))
    have z2 := store_at (es' := us) (t' := t3) z1 rfl
    have pk := pm.map fun e => strOf e.2
    exact wpAny_pure (hR _ (sb.trans (Heap.SameBut.update _ a _)) ⟨_, us, _, t3, z2, zx, rfl, fun e he => g1 e (pm.mem_iff.mp he), pk.nodup_iff.mpr nd1, fun k => (m1 k).trans pk.mem_iff.symm, b2, f3, sz, r3, l1.imp id fun q => by rw [l3]; exact q⟩)
  · exact wpAny_pure (hR _ sb ⟨_, ys, _, t2, z1, zx, rfl, g1, nd1, m1, b1, f1, rfl, r1, l1⟩)
theorem setTx_add {k : Str} {tk : Tok} {Q : Bool → Shared → Prop} (R : SetTx P w s.heap a T m) (room : m + 1 < scanBound)
    (hQ : ∀ h', Heap.SameBut a s.heap h' → SetTx P w h' a (fun j => T j || decide (j = k)) (if T k = true then m else m + 1) → Q (!T k) { s with heap := h' }) :
    wpAny (model P w) A (setAddHashed a (.str k tk) ((txK P w).hash k)) Q E s := by
  obtain ⟨ob, xs, ep, tb, z, zx, zd, g, nd, hm, hb, hf, hn, hr, hl⟩ := R
  have gk : GoodTx w ((txK P w).hash k, Value.str k tk) := ⟨k, tk, rfl, rfl⟩
  have hkey : (txK P w).is k (.str k tk) = true := (goodTx_is gk k).mpr rfl
  have hsc : (Value.str k tk).scannable = true := rfl
  have hel : ElemsOf (txK P w) xs.toList := goodTx_elems g
  unfold setAddHashed setAddHashedIn
  refine wpAny_holding (wpAny_bind (wpAny_setState_of z zd hf ?_))
  dsimp only
  rw [byScan_of hsc hb hel]
  simp only [↓reduceIte]
  unfold setAddByScan
  refine wpAny_bind ?_
  refine wpAny_bind (wpAny_rule ?_)
  refine wpAny_bind (wpAny_setScan_of hkey z zd hf hel ?_)
  cases hfi : List.findIdx? (fun e => (txK P w).is k e.2) xs.toList with
  | some j =>
    dsimp only
    obtain ⟨hj, pj, _⟩ := List.findIdx?_eq_some_iff_getElem.mp hfi
    have hTk : T k = true := (hm k).mpr ((goodTx_mem (P := P) g k).mpr ⟨xs.toList[j], List.getElem_mem hj, pj⟩)
    refine wpAny_pure (wpAny_pure ?_)
    have q := hQ s.heap (Heap.SameBut.refl a s.heap) ⟨ob, xs, ep, tb, z, zx, zd, g, nd, fun i => by
      rw [Bool.or_eq_true, decide_eq_true_eq, ← hm i]
      exact ⟨fun y => y.elim id (fun e => e ▸ hTk), .inl⟩, hb, hf, by rw [if_pos hTk]; exact hn, hr, hl⟩
    rw [hTk] at q
    exact q
  | none =>
    dsimp only
    have hnk : ¬ k ∈ xs.toList.map fun e => strOf e.2 := fun y => by
      obtain ⟨e, he, q⟩ := (goodTx_mem (P := P) g k).mp y
      have c := List.findIdx?_eq_none_iff.mp hfi e he
      rw [q] at c
      cases c
    have hTk : T k = false := by
      cases q : T k with
      | false => rfl
      | true => exact (hnk ((hm k).mp q)).elim
    have hgw : ∀ (b : Bool) {s1 : Shared} {Q1 : Unit → Shared → Prop}, Q1 () s1 → wpAny (model P w) A (match b with | true => rule "set.scan.the-table-gave-way" | false => pure ()) Q1 E s1 :=
      fun b s1 Q1 q => by cases b <;> first | exact wpAny_pure q | exact wpAny_rule q
    have pm := layNew_perm tb xs ((txK P w).hash k) (.str k tk)
    have f1 := layNew_fits tb xs ((txK P w).hash k) (.str k tk)
    have r1 := layNew_ris tb xs ((txK P w).hash k) (.str k tk) hr
    have l1 := layNew_led tb xs ((txK P w).hash k) (.str k tk)
    generalize layNew tb xs ((txK P w).hash k) (.str k tk) = Z at pm f1 r1 l1 ⊢
    obtain ⟨ys, t1, wd, gave⟩ := Z
    dsimp only at pm f1 r1 l1 ⊢
    rw [Array.toList_push] at pm
    have pc : ys.toList.Perm (((txK P w).hash k, Value.str k tk) :: xs.toList) := pm.trans (List.perm_append_singleton _ _)
    have pk := pc.map fun e : Int × Value => strOf e.2
    have g1 : ∀ e ∈ ys.toList, GoodTx w e := fun e he => by
      rcases List.mem_cons.mp (pc.mem_iff.mp he) with y | y
      · rw [y]; exact gk
      · exact g e y
    have nd1 : (ys.toList.map fun e => strOf e.2).Nodup := pk.nodup_iff.mpr (List.nodup_cons.mpr ⟨hnk, nd⟩)
    have m1 : ∀ i, (T i || decide (i = k)) = true ↔ i ∈ ys.toList.map fun e => strOf e.2 := fun i => by
      rw [Bool.or_eq_true, decide_eq_true_eq, hm i, pk.mem_iff, List.map_cons, List.mem_cons]
      exact Or.comm
    have sz : ys.size = m + 1 := by rw [← Array.length_toList, pc.length_eq, List.length_cons, Array.length_toList, hn]
    have b1 : ys.size < scanBound := by omega
    have led : w.params.followText "set-order" = true ∨ t1.led = true := hl.imp id fun y => by rw [l1]; exact y
    have fin : ∀ h', Heap.SameBut a s.heap h' → SetTx P w h' a (fun j => T j || decide (j = k)) ys.size → Q true { s with heap := h' } := fun h' sb r => by
      have q := hQ h' sb
      rw [hTk] at q
      rw [sz] at r
      exact q r
    refine wpAny_bind (hgw _ ?_)
    split
    · refine wpAny_bind ?_
      rw [hashByValue_scannable 8 hsc]
      refine wpAny_pure ?_
      refine setTx_tail ?_ z zx zd g1 nd1 m1 b1 ?_ ?_ ?_ ?_
      · intro b s1 Q1 q; cases b <;> first | exact wpAny_pure q | exact wpAny_rule q
      · first | (split <;> first | exact f1 | exact SetTable.fits_plain_off f1) | exact f1
      · first | (split <;> exact r1) | exact r1
      · first | (split <;> exact led) | exact led
      · intro h' sb r; dsimp only; exact wpAny_pure (fin h' sb r)
    · refine wpAny_bind (wpAny_pure ?_)
      simp only [↓reduceIte]
      refine setTx_tail ?_ z zx zd g1 nd1 m1 b1 f1 r1 led ?_
      · intro b s1 Q1 q; cases b <;> first | exact wpAny_pure q | exact wpAny_rule q
      · intro h' sb r; dsimp only; exact wpAny_pure (fin h' sb r)
theorem set_update_txts {I : Addr} {fp wr : List Addr} {G : Array GenState → Array GenState → Prop} {n : Nat} {Pv : Nat → Value → Prop} {St : Nat → Shared → Prop} {R : Result → Shared → Prop}
    (W : WalksS P w A.in1 I fp wr G n Pv St) (a : Addr) (hSf : a ∉ fp) (ns : List Str) (hn : n = ns.length) (hb : ns.length + 1 < scanBound) (hval : ∀ i v, Pv i v → ∃ k t, ns[i]? = some k ∧ v = Value.str k t) :
    ∀ (k i : Nat) (s : Shared), n - i = k → i ≤ n → St i s → (∃ c, c ≤ i ∧ SetTx P w s.heap a (fun j => decide (j ∈ ns.take i)) c) →
      (∀ s' c, Moved (a :: wr) G s s' → c ≤ n → SetTx P w s'.heap a (fun j => decide (j ∈ ns)) c → R (.ok (.ret .none)) s') →
      codeAny (model P w) A (.builtin "set.update.loop" ⟨[.ref a, .ref I], []⟩) R s := by
  have hSw : a ∉ wr := fun z => hSf (W.sub _ z)
  have up : ∀ b ∈ wr, b ∈ a :: wr := fun b z => List.mem_cons_of_mem _ z
  intro k
  induction k with
  | zero =>
    intro i s e0 hi hst ⟨c, hc, hS⟩ hR
    obtain rfl : i = n := by omega
    refine codeAny_builtin F.entry_set_update_loop ?_
    rw [Around.under_plainId F.plain_set_update_loop _]
    show wpAny _ A.in1 (pyNext (.ref I) >>= _) _ _ s
    refine wpAny_bind (W.done s _ _ hst fun s' mv => ?_)
    show wpAny _ A.in1 (ret Value.none) _ _ s'
    have e : ns.take i = ns := List.take_of_length_le (by omega)
    rw [e] at hS
    exact wpAny_pure (hR s' c (mv.mono up) hc (hS.at fun o q => mv.heap a o hSw q))
  | succ k ih =>
    intro i s e0 hi hst ⟨c, hc, hS⟩ hR
    have lt : i < n := by omega
    refine codeAny_builtin F.entry_set_update_loop ?_
    rw [Around.under_plainId F.plain_set_update_loop _]
    show wpAny _ A.in1 (pyNext (.ref I) >>= _) _ _ s
    refine wpAny_bind (W.item i s _ _ lt hst fun v s' hP hst' mv => ?_)
    obtain ⟨z, t, hz, rfl⟩ := hval i v hP
    have hS' : SetTx P w s'.heap a (fun j => decide (j ∈ ns.take i)) c := hS.at fun o q => mv.heap a o hSw q
    show wpAny _ A.in1 (holding [Value.str z t] (setAdd a (.str z t)) >>= _) _ _ s'
    refine wpAny_bind (wpAny_holding ?_)
    unfold setAdd
    refine wpAny_holding ?_
    have gz : GoodTx w ((txK P w).hash z, Value.str z t) := ⟨z, t, rfl, rfl⟩
    refine wpAny_bind ((txK P w).pyHash (k := z) ((goodTx_is gz z).mpr rfl) ?_)
    refine setTx_add (s := { s' with toks := s'.toks + 1 }) hS' (by omega) fun h' sb S2 => ?_
    have S3 : SetTx P w h' a (fun j => decide (j ∈ ns.take (i + 1))) (if decide (z ∈ ns.take i) = true then c else c + 1) := S2.congr fun j => by
      rw [List.take_add_one, hz]
      simp [List.mem_append]
    have c3 : (if decide (z ∈ ns.take i) = true then c else c + 1) ≤ i + 1 := by
      split <;> omega
    refine wpAny_pure ⟨plainId_quiet F.plain_set_update_loop _, ih (i + 1) _ (by omega) lt (W.frame _ s' _ _ hst' (Nat.le_succ _) fun b hb o e => ?_) ⟨_, c3, S3⟩ fun s'' c2 mv2 hc2 S4 => ?_⟩
    · rw [sb.2 b (fun q : b = a => hSf (by rw [← q]; exact hb))]; exact e
    · refine hR s'' c2 (Moved.trans W.gtrans ((mv.mono up).then_heap (Nat.le_succ _) fun b o hb e => ?_) mv2) hc2 S4
      rw [sb.2 b (fun q : b = a => hb (by rw [q]; exact List.mem_cons_self))]; exact e
set_option maxRecDepth 100000 in
theorem setT_call {l : Addr} {items : Array Value} (ns : List Str) {Q : Value → Shared → Prop} (hh : A.handled = none) (hl : s.heap.IsList l items) (hit : StrsAre items.toList ns) (hb : ns.length + 1 < scanBound)
    (h : ∀ (h' : Heap) (tk c : Nat), SetTx P w h' s.heap.objs.size (fun j => decide (j ∈ ns)) c → c ≤ ns.length → (∀ b o, s.heap.get? b = some o → h'.get? b = some o) → Q (.ref s.heap.objs.size) { s with heap := h', toks := tk }) :
    wpAny (model P w) A (call (.type "set") [.ref l]) Q E s := by
  have hisz : items.size = ns.length := by
    have q := StrsAre.length hit
    rw [Array.length_toList] at q
    exact q
  obtain ⟨c, tl, hmro⟩ := F.called_set.mro
  have hmade := F.called_set.made
  have hsub := F.called_set.sub
  refine wpAny_call (codeAny_of_tree ?_)
  show wpAny _ _ (callAny (.type "set") _) _ _ _
  refine wpAny_pure ⟨Code.quiet_builtin _ (by decide +kernel), codeAny_builtin F.entry_type_call ?_⟩
  rw [Around.under_plain (weight_type_call_type "set" [.ref l] []) rfl]
  have h1 := F.called_set.notType
  have h2 := F.called_set.canCreate
  have hct := F.typeCall_set_1 (.ref l)
  repeat (any_goals (first | assumption | wp_step))
  refine codeAny_mono (code_set_led1 (.ref l) (E := E) (Q₁ := fun obj s₁ => obj = .ref s.heap.objs.size ∧ s₁ = { s with heap := s.heap.push { cls := .type "set", dict := none, data := .set #[] 0 (.fresh 0 0 (!w.params.followText "set-order")) } }) ⟨rfl, rfl⟩) fun r s₁ hr => ?_
  cases r with
  | error e => exact hr
  | ok fl =>
    cases fl with
    | ret obj =>
      obtain ⟨rfl, rfl⟩ := hr
      have hS : (s.heap.push { cls := .type "set", dict := none, data := .set #[] 0 (.fresh 0 0 (!w.params.followText "set-order")) }).get? s.heap.objs.size = some { cls := .type "set", dict := none, data := .set #[] 0 (.fresh 0 0 (!w.params.followText "set-order")) } := Heap.get?_push_size _ rfl
      have hT : Shared.TypeIs { s with heap := s.heap.push { cls := .type "set", dict := none, data := .set #[] 0 (.fresh 0 0 (!w.params.followText "set-order")) } } (.ref s.heap.objs.size) "set" := ⟨_, hS, rfl⟩
      have hli := F.called_set.init.lookup
      have hbi := F.called_set.init.bind (.ref s.heap.objs.size)
      repeat (any_goals (first | assumption | wp_step))
      refine codeAny_mono (codeAny_call_builtin (R := wants (fun r s₂ => r = .none ∧ ∃ h' tk c, s₂ = { s with heap := h', toks := tk } ∧ SetTx P w h' s.heap.objs.size (fun j => decide (j ∈ ns)) c ∧ c ≤ ns.length ∧
          (∀ b o, s.heap.get? b = some o → h'.get? b = some o)) E) F.called_set.init.plain F.entry_set_init (check_set_init_1 hT ?_)) fun r₂ s₂ hr₂ => ?_
      · obtain ⟨ol, hol, hcl, nl, hdl⟩ := hl
        obtain ⟨ocls, odict, odata, oslots⟩ := ol
        simp only at hcl hdl
        subst hcl; subst hdl
        have hol' : (s.heap.push { cls := .type "set", dict := none, data := .set #[] 0 (.fresh 0 0 (!w.params.followText "set-order")) }).get? l = some { cls := .type "list", dict := odict, data := .seq items nl, slots := oslots } := Heap.get?_push_of_some _ hol
        have hsls := F.sub_list_set
        have hslf := F.sub_list_frozenset
        have hne : (Value.type "list" == Value.type "dict") = false := by decide
        have hl1 : (s.heap.push { cls := .type "set", dict := none, data := .set #[] 0 (.fresh 0 0 (!w.params.followText "set-order")) }).IsList l items := ⟨_, hol', rfl, nl, rfl⟩
        unfold Builtin.«set.__init__» noKeywords Builtin.Frozenset.updateFrom
        generalize hPI : pyIter = PI
        wp_walk
        subst hPI
        refine wpAny_pyIter_list hl1 ?_
        refine wpAny_bind (wpAny_runValue ?_)
        have hlS : l < s.heap.objs.size := Heap.lt_size hol
        have hh3 : A.in1.in1.in1.handled = none := by simp [hh]
        have hneI : l ≠ (s.heap.push { cls := .type "set", dict := none, data := .set #[] 0 (.fresh 0 0 (!w.params.followText "set-order")) }).objs.size := by
          rw [Heap.size_push]; exact Nat.ne_of_lt (Nat.lt_succ_of_lt hlS)
        have hSf : s.heap.objs.size ∉ [(s.heap.push { cls := .type "set", dict := none, data := .set #[] 0 (.fresh 0 0 (!w.params.followText "set-order")) }).objs.size, l] := by
          rw [Heap.size_push]; simp only [List.mem_cons, List.mem_singleton, List.not_mem_nil, or_false, not_or]
          exact ⟨Nat.ne_of_lt (Nat.lt_succ_self _), Nat.ne_of_gt hlS⟩
        have hval : ∀ (i : Nat) (v : Value), items[i]? = some v → ∃ k t, ns[i]? = some k ∧ v = Value.str k t := fun i v hv => txt_at14 hit i v (by rw [Array.getElem?_toList]; exact hv)
        refine set_update_txts ((Walks.list hh3 _ l hneI items).toS) s.heap.objs.size
          hSf ns hisz hb hval (items.size - 0) 0 _ (by omega) (Nat.zero_le _)
          ⟨⟨_, Heap.get?_push_size _ rfl, rfl, rfl⟩, (hl1.push _)⟩ ?hS0 ?hR
        case hS0 =>
          refine ⟨0, Nat.le_refl 0, setTx_new_at ?_⟩
          exact Heap.get?_push_of_some _ hS
        case hR =>
          intro s' c' hm hc' hS'
          obtain ⟨h', g2, d', tk', os'⟩ := s'
          have eg : g2 = s.gens := hm.gens
          have ed : d' = s.drawn := hm.drawn
          have eo : os' = s.os := hm.os
          subst eg; subst ed; subst eo
          show wpAny _ _ _ _ _ _
          refine wpAny_pure ?_
          show wpAny _ _ (ret Value.none) _ _ _
          rw [hisz] at hc'
          refine wpAny_pure ⟨rfl, h', tk', c', rfl, hS', hc', fun b o e => ?_⟩
          have hb0 : b < s.heap.objs.size := Heap.lt_size e
          have hb2 : b ≠ (s.heap.push { cls := .type "set", dict := none, data := .set #[] 0 (.fresh 0 0 (!w.params.followText "set-order")) }).objs.size := by
            rw [Heap.size_push]; exact Nat.ne_of_lt (Nat.lt_succ_of_lt hb0)
          exact hm.heap b o (by simp only [List.mem_cons, List.mem_singleton, List.not_mem_nil, or_false, not_or]; exact ⟨Nat.ne_of_lt hb0, hb2⟩) (Heap.get?_push_of_some _ (Heap.get?_push_of_some _ e))
      · cases r₂ with
        | error e => exact hr₂
        | ok fl₂ =>
          cases fl₂ with
          | ret r =>
            obtain ⟨rfl, h', tk, c', rfl, hS', hc', hk'⟩ := hr₂
            repeat (any_goals (first | assumption | wp_step))
            exact h _ _ _ hS' hc' hk'
          | _ => exact hr₂.elim
    | _ => exact hr.elim
theorem sorted_setTx {Q : Value → Shared → Prop} (R : SetTx P w s.heap a T m) (hh : A.handled = none) (hm0 : m ≤ sizeLine)
    (hQ : ∀ s' p (out : Array Value) (c : Nat) (ss : List Str), (∀ b o, s.heap.get? b = some o → s'.heap.get? b = some o) → s'.gens = s.gens → s'.os = s.os → s.heap.objs.size ≤ p →
      s'.heap.get? p = some (seqObj "list" out c) → StrsAre out.toList ss → sortedS ss = true → ss.Nodup → (∀ k, k ∈ ss ↔ T k = true) → ss.length = m → Q (.ref p) s') :
    wpAny (model P w) A (call (.builtin "sorted") [.ref a]) Q E s := by
  obtain ⟨ob, xs, ep, tb, z, zx, zd, g, nd, hm, hb, hf, hn, hr, hl⟩ := R
  refine Calls.call_function_entry kind_sorted plain_sorted entry_sorted (args_sorted1 _) ?_
  unfold Builtin.«sorted»
  refine wpAny_bind (m := checkCount "sorted" 1 1 _) (wpAny_pure ?_)
  refine wpAny_bind (collect_set (A := A.in1) hh ⟨ob, z, zx.1, zd⟩ hf hb hr hl fun s1 vs k1 sz g1 o1 pm => ?_)
  have vl : vs.length = m := by rw [pm.length_eq, List.length_map, Array.length_toList]; exact hn
  have hS : StrsAre vs (vs.map strOf) := strsAre_map vs fun v hv => by
    obtain ⟨e, he, q⟩ := List.mem_map.mp (pm.mem_iff.mp hv)
    obtain ⟨k, tk, y, _⟩ := g e he
    exact ⟨k, tk, by rw [← q]; exact y⟩
  have pk : (vs.map strOf).Perm (xs.toList.map fun e => strOf e.2) := by
    have q := pm.map strOf
    rw [List.map_map] at q
    exact q
  have vz : vs.length ≤ sizeLine := by omega
  refine wpAny_bind (wpAny_newList ?_ vz)
  have oL : (s1.heap.push (seqObj "list" vs.toArray 0)).get? s1.heap.objs.size = some (seqObj "list" vs.toArray 0) := Heap.get?_push_size _ rfl
  refine wpAny_bind (wpAny_holding (wpAny_call_entry slot_list_sort ⟨_, oL, rfl⟩ entry_list_sort (list_sort_treeKAny strKind_oneLt oL hS.keysOf (fun v1 v2 rest e => keyKind_strs (by rw [← e]; exact hS)) vz fun st' hp hs => ⟨_, rfl, ?_⟩) (args_list_sort _)))
  obtain ⟨ss, b1, b2, b3⟩ := sorted_out_str hS hp hs
  obtain ⟨c, hc⟩ := sortedHeap_at (vs := vs) (out := (arrOf st').map (·.2)) oL
  have pn : ss.Perm (xs.toList.map fun e => strOf e.2) := b2.trans pk
  refine wpAny_pure ⟨_, rfl, hQ _ s1.heap.objs.size _ c ss (fun b u e => ?_) g1 o1 sz hc b1 b3 (pn.nodup_iff.mpr nd) (fun k => by rw [pn.mem_iff, ← hm k]) ?_⟩
  · have q := k1 b u e
    have lt := Heap.lt_size q
    show (sortedHeap (s1.heap.push (seqObj "list" vs.toArray 0)) s1.heap.objs.size vs _).get? b = some u
    rw [sortedHeap_old (Nat.ne_of_lt lt) (by rw [size_push']; exact Nat.lt_succ_of_lt lt)]
    exact Heap.get?_push_of_some _ q
  · rw [pn.length_eq, List.length_map, Array.length_toList]; exact hn
end
/-- sorted(set(xs)), xs texts -/
def tSortTx (K : PySem.W.Frag) (ta : TE) : TE := fun σ H Q => ta σ H fun x H1 => ∃ (l : Addr) (ss : List Str), x = .ref l ∧ SqL K H1 l (ss.map V.str) ∧ ss.length < 4000 ∧
  ∀ (out : List Str) (p : Addr), sortedS out = true → out.Nodup → (∀ k, k ∈ out ↔ k ∈ ss) → H1 p = none → Q (.ref p) (upd H1 p (.lst (out.map V.str)))
theorem pe_sortTx {X : Cx} {a : Expr} {ta : TE} {p p2 q pos : Pos} (hg : Gl X "sorted") (hm : X.mg "sorted" = none) (hg2 : Gl X "set") (hm2 : X.mg "set" = none) (ha : PE X a ta) (hc : X.calm = true := by rfl)
    (na : starEach [a] X.env = (false, eval a X.env) :: starEach [] X.env := by rfl) : PE X (.Call (.Name "sorted" p) [.Call (.Name "set" p2) [a] [] q] [] pos) (tSortTx X.K ta) := by
  refine ⟨fun pins s σ H Q I h => ?_⟩
  refine Call_ (ld_blt I hg hm (show bootBuiltins "sorted" = some (.builtin "sorted") by decide +kernel) ?_)
  refine PyProof.Rows.callWith_builtin1 (PyProof.Rows.args_cons ?_ rfl) rfl rfl
  refine Call_ (ld_blt I hg2 hm2 PyProof.Rows.boot_set ?_)
  refine PyProof.Rows.callWith_type1 (PyProof.Rows.args_cons (thn (ha.run pins s σ H _ I h) fun v s1 ⟨x, H1, I1, r1, q1⟩ => PyProof.Rows.args_nil ?_) na) na rfl
  obtain ⟨l, ss, rfl, hq, hl, q1⟩ := q1
  cases r1
  obtain ⟨its, r, pl, hz⟩ := I1.list hq
  refine setT_call ss (I1.ok.hd hc) pl.isList (by simpa using r.strs) (by unfold scanBound; omega) fun h' tk c R1 hcn hk => ?_
  refine PyProof.Rows.args_nil ?_
  have I2 : Inv X pins σ H1 { s1 with heap := h', toks := tk } := I1.kept fun b o e => hk b o e
  refine sorted_setTx R1 (I2.ok.hd hc) (by rw [sizeLine_eq]; omega) fun s' p out c ts k0 g o hp0 hgt hi hs nd hm hlen => ?_
  have k : ∀ b u, s1.heap.get? b = some u → s'.heap.get? b = some u := fun b u e => k0 b u (hk b u e)
  have hp : s1.heap.objs.size ≤ p := by
    refine Nat.le_trans ?_ hp0
    obtain ⟨oo, _, _, _, ho, _⟩ := R1
    exact Nat.le_of_lt (Heap.lt_size ho)
  have len2 : (ts.map V.str).length ≤ sizeLine := by rw [List.length_map, hlen, sizeLine_eq]; omega
  have hn : H1 p = none := I1.hok.fresh hp
  have J : Inv X pins σ (upd H1 p (.lst (ts.map V.str))) { s1 with heap := s'.heap, gens := s'.gens, drawn := s'.drawn, toks := s'.toks } :=
    I1.call (ch := []) (Un.laid k hp hn) (I1.hok.laid k hp ⟨len2, out.toList, c, vals_of_strs hi, hgt⟩) (by rw [g]; exact I1.bare) (fun _ z => nomatch z)
  have e : s' = { s1 with heap := s'.heap, gens := s'.gens, drawn := s'.drawn, toks := s'.toks } := by
    cases s'
    cases s1
    cases o
    rfl
  rw [e]
  exact ⟨.ref p, _, J, rfl, q1 ts p hs nd (fun k => by rw [hm k, decide_eq_true_eq]) hn⟩
theorem rising_pw : ∀ (r : List Str) (x : Str), risingS x r = true → (x :: r).Pairwise (fun a b => ltCps b.cps.toList a.cps.toList = false)
  | [], x, _ => by simp
  | y :: r, x, h => by
    unfold risingS at h
    have h1 : ltCps y.cps.toList x.cps.toList = false ∧ risingS y r = true := by
      revert h
      cases ltCps y.cps.toList x.cps.toList <;> simp
    have ih := rising_pw r y h1.2
    refine List.pairwise_cons.mpr ⟨fun z hz => ?_, ih⟩
    rcases List.mem_cons.mp hz with rfl | hz
    · exact h1.1
    · have h2 := (List.pairwise_cons.mp ih).1 z hz
      have h1 := h1.1
      rw [ltCps_eq, decide_eq_false_iff_not] at h1 h2 ⊢
      exact fun q => (List.le_trans (List.not_lt.mp h1) (List.not_lt.mp h2)) q
theorem sorted_pw {l : List Str} (h : sortedS l = true) : l.Pairwise (fun a b => ltCps b.cps.toList a.cps.toList = false) := by
  cases l with
  | nil => exact List.Pairwise.nil
  | cons x r => exact rising_pw r x h
theorem str_ext {a b : Str} (h : a.cps.toList = b.cps.toList) : a = b := by
  cases a; cases b
  simp only at h
  congr 1
  exact Array.toList_inj.mp h
def OrdT (ss out : List Str) : Prop := sortedS out = true ∧ out.Nodup ∧ ∀ k, k ∈ out ↔ k ∈ ss
theorem ordT_uniq {ss a b : List Str} (h : OrdT ss a) (g : OrdT ss b) : a = b := by
  have pm : a.Perm b := (List.perm_ext_iff_of_nodup h.2.1 g.2.1).2 fun k => by rw [h.2.2 k, g.2.2 k]
  refine List.Perm.eq_of_pairwise (fun x y _ _ h1 h2 => ?_) (sorted_pw h.1) (sorted_pw g.1) pm
  rw [ltCps_eq, decide_eq_false_iff_not] at h1 h2
  exact str_ext (List.le_antisymm (List.not_lt.mp h1) (List.not_lt.mp h2))
open Classical in
noncomputable def sortT (ss : List Str) : List Str := if h : ∃ out, OrdT ss out then h.choose else []
theorem sortT_of {ss out : List Str} (h : OrdT ss out) : sortT ss = out := by
  have e : ∃ out, OrdT ss out := ⟨out, h⟩
  unfold sortT
  rw [dif_pos e]
  exact ordT_uniq e.choose_spec h
theorem sortT_congr {a b : List Str} (h : ∀ k, k ∈ a ↔ k ∈ b) : sortT a = sortT b := by
  have e : OrdT a = OrdT b := by
    funext out
    unfold OrdT
    have : (∀ k, k ∈ out ↔ k ∈ a) = (∀ k, k ∈ out ↔ k ∈ b) := propext ⟨fun q k => (q k).trans (h k), fun q k => (q k).trans (h k).symm⟩
    rw [this]
  unfold sortT
  rw [e]
theorem rpL_strs_val {K : PySem.W.Frag} {G : Hp} : ∀ {ss : List Str} {vs : List V}, RpL K G (ss.map D.str) vs → vs = ss.map V.str
  | [], _, .nil => (rfl)
  | _ :: _, _, .cons h t => by cases h; rw [rpL_strs_val t]; rfl
section
variable {K : PySem.W.Frag} {δ : List S} {te : TE}
theorem ev_sortTx {ss : List Str} (h : EV K te δ (.d (.lst (ss.map .str)))) (hl : ss.length < 4000) : EV K (tSortTx K te) δ (.own ((sortT ss).map .str)) := by
  intro He Ge H τo τs σ hlen ok Q q
  refine h He Ge H τo τs σ hlen ok _ fun v H1 ⟨G, ok1⟩ => ?_
  obtain ⟨_, e1, r1⟩ := ok1.top
  cases e1
  cases r1 with
  | lst hp r =>
    have e := rpL_strs_val r
    subst e
    refine ⟨_, ss, rfl, SqL.of (ok1.gh _ _ hp), hl, fun out p h1 h2 h3 hp => ?_⟩
    rw [← sortT_of ⟨h1, h2, h3⟩]
    exact q _ _ ⟨_, ok1.pop.newOwn hp (rpL_strs K _ _)⟩
end
section
variable {Hy : PySem.W.Frag → Prop}
noncomputable def sortTF (x : D) : M S := match x with | .lst xs => (match strsD xs with | some ss => if ss.length < 4000 then .ok (.own ((sortT ss).map .str)) else .no | none => .no) | _ => .no
/-- sorted(set(a)), a a list of texts -/
noncomputable def SE.sortTx (a : SE Hy) : SE Hy where
  t K W := tSortTx K (a.t K W)
  f δ := (a.fd δ).bin sortTF
  ok K hk W δ := by
    cases h : a.fd δ with
    | ok x =>
      rw [M.ok_bin]
      unfold sortTF
      split
      · split
        · split
          · rename_i xs ss e hl
            have e2 := strsD_to e
            subst e2
            exact ev_sortTx (a.okD hk h) hl
          · trivial
        · trivial
      · trivial
    | _ => trivial
@[simp] theorem SE.sortTx_f (a : SE Hy) (δ : List S) : (SE.sortTx a).f δ = (a.fd δ).bin sortTF := (rfl)
theorem strsD_mapT : ∀ ss : List Str, strsD (ss.map .str) = some ss
  | [] => (rfl)
  | n :: r => by simp [strsD, strsD_mapT r]
theorem sortTF_ss {ss : List Str} (h : ss.length < 4000) : sortTF (.lst (ss.map .str)) = .ok (.own ((sortT ss).map .str)) := by
  unfold sortTF; simp only [strsD_mapT]; rw [if_pos h]
/-- e.append(x), e a list that a call hands back -/
def SS.appT (e x : SE Hy) : SS Hy where
  t K W := tDrop (tBM K "list" rAppend (e.t K W) (tCons (x.t K W) tNil))
  f δ := match e.f δ with | .ok (.own xs) => Fl.exn (x.fd δ) fun _ => if xs.length < sizeLine then .nx δ else .no | _ => .no
  ok K hk W δ := by
    cases h : e.f δ with
    | ok s =>
      cases s with
      | own xs =>
        cases h2 : x.fd δ with
        | ok y =>
          show SDF K W _ δ (if xs.length < sizeLine then _ else _)
          by_cases hz : xs.length < sizeLine
          · rw [if_pos hz]
            intro He Ge H σ Dn ok nx rt bk ct xx
            refine ev0 (e.okS hk h) ok fun v H1 ok1 => ?_
            obtain ⟨G1, k1⟩ := id ok1
            obtain ⟨p, vs, e1, _, _, hp1, _⟩ := k1.top
            cases e1
            refine ⟨.inl ⟨rfl, _, SqL.of hp1⟩, ?_⟩
            refine (x.okD hk h2) He Ge H1 [some (.ref p)] [.own xs] σ rfl ok1 _ fun u H2 ⟨G2, k2⟩ => ?_
            have k2 : OKG K He Ge H2 G2 (some u :: some (.ref p) :: σ) (.d y :: .own xs :: δ) := k2
            obtain ⟨_, e2, ry⟩ := k2.top
            cases e2
            obtain ⟨p2, vs2, e3, _, _, hp2, rv⟩ := k2.pop.top
            cases e3
            refine ⟨p, vs2, u, rfl, rfl, hp2, by rw [← rv.length]; exact hz, ?_⟩
            exact nx _ _ _ ⟨G2, (OKG.change (i := 0) k2.pop rfl rfl hp2 (rv.append (.cons ry .nil))).pop⟩ rfl
          · rw [if_neg hz]; trivial
        | _ => trivial
      | _ => trivial
    | _ => trivial
def appTF (m : M S) (k : M D) (δ : List S) : Fl := match m with | .ok (.own xs) => Fl.exn k fun _ => if xs.length < sizeLine then .nx δ else .no | _ => .no
@[simp] theorem SS.appT_f (e x : SE Hy) (δ : List S) : (SS.appT e x).f δ = appTF (e.f δ) (x.fd δ) δ := (rfl)
@[simp] theorem appTF_own {xs : List D} {y : D} {δ : List S} (h : xs.length < 16777216) : appTF (.ok (.own xs)) (.ok y) δ = .nx δ := if_pos (by rw [sizeLine_eq]; exact h)
end
end Far
namespace Far
open PySem L2 PySem.Spec PyProof.Rows
section
variable {X : Cx} {C : Addr} {x : Str} {p pos : Pos}
theorem pe_new0 (M : Mk0 X.K C) (hg : Gl X x) (hm : X.mg x = some (.ref C)) (hdb : (x == ("__debug__" : Str)) = false := by decide) : PE X (.Call (.Name x p) [] [] pos) (tNew0 C) := by
  refine ⟨fun pins s σ H Q I h => ?_⟩
  refine wpAny_Call_Name_kw (ld_glob I hg hm ?_ hdb)
  refine PySem.W.callWith_K0 I.kIn M.kp ?_
  have hq := h (s.heap.objs.size + 1) s.heap.objs.size (I.hok.fresh (Nat.le_succ _)) (I.hok.fresh (Nat.le_refl _)) (Nat.ne_of_lt (Nat.lt_succ_self _))
  have I2 := Inv.made (C := C) I
  refine wpAny_call (make_map0 I.kIn M.makes M.init (fun self => PySem.W.Looks.of_pure (PySem.W.oi_bind self)) ?_)
  have ho : ((s.heap.push PySem.W.emptyDict).push (PySem.W.instObj C s.heap.objs.size)).get? (s.heap.objs.size + 1) = some (PySem.W.instObj C s.heap.objs.size) := by
    have := Heap.get?_push_size (s.heap.push PySem.W.emptyDict) (o := PySem.W.instObj C s.heap.objs.size) rfl
    rwa [Heap.size_push] at this
  have t2 : PySem.W.Looks (model X.prog X.w) ((s.heap.push PySem.W.emptyDict).push (PySem.W.instObj C s.heap.objs.size)) (isInstance (.ref (s.heap.objs.size + 1)) (.type "object")) true :=
    (NwA.type_at ho rfl).andThen (PySem.W.looks_mroIn I2.kIn M.top)
  refine codeAny_call_builtin PySem.W.oi_plain PySem.W.entry_oi (PySem.W.check_slot PySem.W.oi_kind PySem.W.oi_split t2 (PySem.W.oi_args _) ?_)
  rw [PySem.W.oi_run]
  exact wpAny_pure ⟨rfl, ⟨V.ref (s.heap.objs.size + 1), _, I2, rfl, hq⟩⟩
end
end Far
namespace Far
open PySem L2
theorem tabs_noTab {K : PySem.W.Frag} (h : FarH.noTab K = true) : tabsK K = [] := by
  match K, h with
  | [], _ => rfl
  | [_], _ => rfl
  | (a, _) :: (b, o) :: r, h =>
    show tabsGo a ((b, o) :: r) = []
    unfold tabsGo
    exact if_neg (of_decide_eq_true h)
end Far
namespace Far
open PySem L2
abbrev Zs.FarError (Z : Zs) : Addr := Z.f 0
abbrev Zs.NoSpan (Z : Zs) : Addr := Z.f 1
abbrev Zs.NoValue (Z : Zs) : Addr := Z.f 2
abbrev Zs.NoPlace (Z : Zs) : Addr := Z.f 3
abbrev Zs.NoCount (Z : Zs) : Addr := Z.f 4
abbrev Zs.NoWheel (Z : Zs) : Addr := Z.f 5
abbrev Zs.NoRow (Z : Zs) : Addr := Z.f 6
abbrev Zs.NoWord (Z : Zs) : Addr := Z.f 7
abbrev Zs.NoWalker (Z : Zs) : Addr := Z.f 8
abbrev Zs.NoState (Z : Zs) : Addr := Z.f 9
abbrev Zs.NoName (Z : Zs) : Addr := Z.f 10
abbrev Zs.NoVersion (Z : Zs) : Addr := Z.f 11
abbrev Zs.NoTree (Z : Zs) : Addr := Z.f 12
abbrev Zs.TooMany (Z : Zs) : Addr := Z.f 13
abbrev Zs.NoText (Z : Zs) : Addr := Z.f 14
abbrev Zs.Rule (Z : Zs) : Addr := Z.f 15
abbrev Zs.Over (Z : Zs) : Addr := Z.f 16
abbrev Zs.Where (Z : Zs) : Addr := Z.f 17
abbrev Zs.Without (Z : Zs) : Addr := Z.f 18
abbrev Zs.Sum (Z : Zs) : Addr := Z.f 19
abbrev Zs.Less (Z : Zs) : Addr := Z.f 20
abbrev Zs.Least (Z : Zs) : Addr := Z.f 21
abbrev Zs.Greatest (Z : Zs) : Addr := Z.f 22
abbrev Zs.Same (Z : Zs) : Addr := Z.f 23
abbrev Zs.Tree (Z : Zs) : Addr := Z.f 24
abbrev Zs.Named (Z : Zs) : Addr := Z.f 25
abbrev Zs.Flat (Z : Zs) : Addr := Z.f 26
abbrev Zs.Only (Z : Zs) : Addr := Z.f 27
abbrev Zs.Shifted (Z : Zs) : Addr := Z.f 28
abbrev Zs.Flipped (Z : Zs) : Addr := Z.f 29
abbrev Zs.Joint (Z : Zs) : Addr := Z.f 30
abbrev Zs.tk_OWN_WORDS (Z : Zs) : Addr := Z.f 31
class ZF (K : PySem.W.Frag) (Z : Zs) : Prop where
  triv : True
  ktp_OWN_WORDS : KTup K Z.tk_OWN_WORDS ["flat", "only", "shifted", "flipped"]
  exc_NoTree : ExcC K Z.NoTree
  exm_NoTree_FarError : PySem.W.exmOne K (.ref Z.NoTree) (.ref Z.FarError) = some true
  kit_NoTree_NoSpan : PySem.W.kitOne K (.ref Z.NoTree) (.ref Z.NoSpan) = some false
  kit_NoTree_NoValue : PySem.W.kitOne K (.ref Z.NoTree) (.ref Z.NoValue) = some false
  kit_NoTree_NoPlace : PySem.W.kitOne K (.ref Z.NoTree) (.ref Z.NoPlace) = some false
  kit_NoTree_NoState : PySem.W.kitOne K (.ref Z.NoTree) (.ref Z.NoState) = some false
  kit_NoTree_NoVersion : PySem.W.kitOne K (.ref Z.NoTree) (.ref Z.NoVersion) = some false
  kit_NoTree_NoCount : PySem.W.kitOne K (.ref Z.NoTree) (.ref Z.NoCount) = some false
  kit_NoTree_NoRow : PySem.W.kitOne K (.ref Z.NoTree) (.ref Z.NoRow) = some false
  kit_NoTree_NoWord : PySem.W.kitOne K (.ref Z.NoTree) (.ref Z.NoWord) = some false
  kit_NoTree_NoName : PySem.W.kitOne K (.ref Z.NoTree) (.ref Z.NoName) = some false
  kit_NoTree_NoTree : PySem.W.kitOne K (.ref Z.NoTree) (.ref Z.NoTree) = some true
  kit_NoTree_TooMany : PySem.W.kitOne K (.ref Z.NoTree) (.ref Z.TooMany) = some false
  kit_NoTree_NoText : PySem.W.kitOne K (.ref Z.NoTree) (.ref Z.NoText) = some false
  kit_NoTree_NoWheel : PySem.W.kitOne K (.ref Z.NoTree) (.ref Z.NoWheel) = some false
  kit_NoTree_NoWalker : PySem.W.kitOne K (.ref Z.NoTree) (.ref Z.NoWalker) = some false
  kit_NoTree_ValueError : PySem.W.kitOne K (.ref Z.NoTree) (.type "ValueError") = some true
  ins_Rule : InsC K Z.Rule
  kit_Rule_Tree : PySem.W.kitOne K (.ref Z.Rule) (.ref Z.Tree) = some false
  ins_Over : InsC K Z.Over
  kit_Over_Tree : PySem.W.kitOne K (.ref Z.Over) (.ref Z.Tree) = some false
  ins_Where : InsC K Z.Where
  kit_Where_Tree : PySem.W.kitOne K (.ref Z.Where) (.ref Z.Tree) = some false
  ins_Without : InsC K Z.Without
  kit_Without_Tree : PySem.W.kitOne K (.ref Z.Without) (.ref Z.Tree) = some false
  ins_Sum : InsC K Z.Sum
  kit_Sum_Tree : PySem.W.kitOne K (.ref Z.Sum) (.ref Z.Tree) = some false
  ins_Less : InsC K Z.Less
  kit_Less_Tree : PySem.W.kitOne K (.ref Z.Less) (.ref Z.Tree) = some false
  ins_Least : InsC K Z.Least
  kit_Least_Tree : PySem.W.kitOne K (.ref Z.Least) (.ref Z.Tree) = some false
  ins_Greatest : InsC K Z.Greatest
  kit_Greatest_Tree : PySem.W.kitOne K (.ref Z.Greatest) (.ref Z.Tree) = some false
  ins_Same : InsC K Z.Same
  kit_Same_Tree : PySem.W.kitOne K (.ref Z.Same) (.ref Z.Tree) = some false
  ins_Tree : InsC K Z.Tree
  kit_Tree_Tree : PySem.W.kitOne K (.ref Z.Tree) (.ref Z.Tree) = some true
  ins_Named : InsC K Z.Named
  na_Named_name : NoAttr K Z.Named "name"
  kit_Named_Tree : PySem.W.kitOne K (.ref Z.Named) (.ref Z.Tree) = some true
  ins_Flat : InsC K Z.Flat
  na_Flat_value : NoAttr K Z.Flat "value"
  kit_Flat_Tree : PySem.W.kitOne K (.ref Z.Flat) (.ref Z.Tree) = some true
  ins_Only : InsC K Z.Only
  na_Only_tree : NoAttr K Z.Only "tree"
  na_Only_span : NoAttr K Z.Only "span"
  kit_Only_Tree : PySem.W.kitOne K (.ref Z.Only) (.ref Z.Tree) = some true
  ins_Shifted : InsC K Z.Shifted
  na_Shifted_tree : NoAttr K Z.Shifted "tree"
  na_Shifted_by : NoAttr K Z.Shifted "by"
  kit_Shifted_Tree : PySem.W.kitOne K (.ref Z.Shifted) (.ref Z.Tree) = some true
  ins_Flipped : InsC K Z.Flipped
  na_Flipped_tree : NoAttr K Z.Flipped "tree"
  na_Flipped_about : NoAttr K Z.Flipped "about"
  kit_Flipped_Tree : PySem.W.kitOne K (.ref Z.Flipped) (.ref Z.Tree) = some true
  ins_Joint : InsC K Z.Joint
  na_Joint_title : NoAttr K Z.Joint "title"
  na_Joint_one : NoAttr K Z.Joint "one"
  na_Joint_other : NoAttr K Z.Joint "other"
  kit_Joint_Tree : PySem.W.kitOne K (.ref Z.Joint) (.ref Z.Tree) = some true
  kty_NoneType_Tree : PySem.W.kitOne K (.type "NoneType") (.ref Z.Tree) = some false
  kty_str_Tree : PySem.W.kitOne K (.type "str") (.ref Z.Tree) = some false
  kty_int_Tree : PySem.W.kitOne K (.type "int") (.ref Z.Tree) = some false
  kty_tuple_Tree : PySem.W.kitOne K (.type "tuple") (.ref Z.Tree) = some false
  kty_list_Tree : PySem.W.kitOne K (.type "list") (.ref Z.Tree) = some false
  kty_dict_Tree : PySem.W.kitOne K (.type "dict") (.ref Z.Tree) = some false
  kty_bool_Tree : PySem.W.kitOne K (.type "bool") (.ref Z.Tree) = some false
def HY (Z : Zs) (K : PySem.W.Frag) : Prop := ZF K Z
theorem kt_OWN_WORDS (Z : Zs) : ∀ K, HY Z K → KTup K Z.tk_OWN_WORDS ["flat", "only", "shifted", "flipped"] := fun K hk => haveI : ZF K Z := hk; ZF.ktp_OWN_WORDS
def TB (Z : Zs) : Tab := ⟨[Z.Rule, Z.Over, Z.Where, Z.Without, Z.Sum, Z.Less, Z.Least, Z.Greatest, Z.Same, Z.Tree, Z.Named, Z.Flat, Z.Only, Z.Shifted, Z.Flipped, Z.Joint], [Z.NoTree], [(Z.NoTree, Z.NoSpan, false), (Z.NoTree, Z.NoValue, false), (Z.NoTree, Z.NoPlace, false), (Z.NoTree, Z.NoState, false), (Z.NoTree, Z.NoVersion, false), (Z.NoTree, Z.NoCount, false), (Z.NoTree, Z.NoRow, false), (Z.NoTree, Z.NoWord, false), (Z.NoTree, Z.NoName, false), (Z.NoTree, Z.NoTree, true), (Z.NoTree, Z.TooMany, false), (Z.NoTree, Z.NoText, false), (Z.NoTree, Z.NoWheel, false), (Z.NoTree, Z.NoWalker, false), (Z.Rule, Z.Tree, false), (Z.Over, Z.Tree, false), (Z.Where, Z.Tree, false), (Z.Without, Z.Tree, false), (Z.Sum, Z.Tree, false), (Z.Less, Z.Tree, false), (Z.Least, Z.Tree, false), (Z.Greatest, Z.Tree, false), (Z.Same, Z.Tree, false), (Z.Tree, Z.Tree, true), (Z.Named, Z.Tree, true), (Z.Flat, Z.Tree, true), (Z.Only, Z.Tree, true), (Z.Shifted, Z.Tree, true), (Z.Flipped, Z.Tree, true), (Z.Joint, Z.Tree, true)], [(Z.NoTree, "ValueError", true)], [("NoneType", Z.Tree, false), ("str", Z.Tree, false), ("int", Z.Tree, false), ("tuple", Z.Tree, false), ("list", Z.Tree, false), ("dict", Z.Tree, false), ("bool", Z.Tree, false)]⟩
theorem TB_ok (Z : Zs) : (TB Z).Ok (HY Z) := fun K hk => haveI : ZF K Z := hk
  ⟨(fm_cons ZF.ins_Rule (fm_cons ZF.ins_Over (fm_cons ZF.ins_Where (fm_cons ZF.ins_Without (fm_cons ZF.ins_Sum (fm_cons ZF.ins_Less (fm_cons ZF.ins_Least (fm_cons ZF.ins_Greatest (fm_cons ZF.ins_Same (fm_cons ZF.ins_Tree (fm_cons ZF.ins_Named (fm_cons ZF.ins_Flat (fm_cons ZF.ins_Only (fm_cons ZF.ins_Shifted (fm_cons ZF.ins_Flipped (fm_cons ZF.ins_Joint fm_nil)))))))))))))))), (fm_cons ZF.exc_NoTree fm_nil), (fm_cons ZF.kit_NoTree_NoSpan (fm_cons ZF.kit_NoTree_NoValue (fm_cons ZF.kit_NoTree_NoPlace (fm_cons ZF.kit_NoTree_NoState (fm_cons ZF.kit_NoTree_NoVersion (fm_cons ZF.kit_NoTree_NoCount (fm_cons ZF.kit_NoTree_NoRow (fm_cons ZF.kit_NoTree_NoWord (fm_cons ZF.kit_NoTree_NoName (fm_cons ZF.kit_NoTree_NoTree (fm_cons ZF.kit_NoTree_TooMany (fm_cons ZF.kit_NoTree_NoText (fm_cons ZF.kit_NoTree_NoWheel (fm_cons ZF.kit_NoTree_NoWalker (fm_cons ZF.kit_Rule_Tree (fm_cons ZF.kit_Over_Tree (fm_cons ZF.kit_Where_Tree (fm_cons ZF.kit_Without_Tree (fm_cons ZF.kit_Sum_Tree (fm_cons ZF.kit_Less_Tree (fm_cons ZF.kit_Least_Tree (fm_cons ZF.kit_Greatest_Tree (fm_cons ZF.kit_Same_Tree (fm_cons ZF.kit_Tree_Tree (fm_cons ZF.kit_Named_Tree (fm_cons ZF.kit_Flat_Tree (fm_cons ZF.kit_Only_Tree (fm_cons ZF.kit_Shifted_Tree (fm_cons ZF.kit_Flipped_Tree (fm_cons ZF.kit_Joint_Tree fm_nil)))))))))))))))))))))))))))))), (fm_cons ZF.kit_NoTree_ValueError fm_nil), (fm_cons ZF.kty_NoneType_Tree (fm_cons ZF.kty_str_Tree (fm_cons ZF.kty_int_Tree (fm_cons ZF.kty_tuple_Tree (fm_cons ZF.kty_list_Tree (fm_cons ZF.kty_dict_Tree (fm_cons ZF.kty_bool_Tree fm_nil)))))))⟩
def fc_about (Z : Zs) : List Addr := [Z.Flipped]
theorem fo_about (Z : Zs) : FldOk (HY Z) "about" (fc_about Z) := (fo_cons (fun K hk => haveI : ZF K Z := hk; ⟨(ZF.ins_Flipped).cl, ZF.na_Flipped_about⟩) fo_nil)
def fc_by (Z : Zs) : List Addr := [Z.Shifted]
theorem fo_by (Z : Zs) : FldOk (HY Z) "by" (fc_by Z) := (fo_cons (fun K hk => haveI : ZF K Z := hk; ⟨(ZF.ins_Shifted).cl, ZF.na_Shifted_by⟩) fo_nil)
def fc_name (Z : Zs) : List Addr := [Z.Named]
theorem fo_name (Z : Zs) : FldOk (HY Z) "name" (fc_name Z) := (fo_cons (fun K hk => haveI : ZF K Z := hk; ⟨(ZF.ins_Named).cl, ZF.na_Named_name⟩) fo_nil)
def fc_one (Z : Zs) : List Addr := [Z.Joint]
theorem fo_one (Z : Zs) : FldOk (HY Z) "one" (fc_one Z) := (fo_cons (fun K hk => haveI : ZF K Z := hk; ⟨(ZF.ins_Joint).cl, ZF.na_Joint_one⟩) fo_nil)
def fc_other (Z : Zs) : List Addr := [Z.Joint]
theorem fo_other (Z : Zs) : FldOk (HY Z) "other" (fc_other Z) := (fo_cons (fun K hk => haveI : ZF K Z := hk; ⟨(ZF.ins_Joint).cl, ZF.na_Joint_other⟩) fo_nil)
def fc_span (Z : Zs) : List Addr := [Z.Only]
theorem fo_span (Z : Zs) : FldOk (HY Z) "span" (fc_span Z) := (fo_cons (fun K hk => haveI : ZF K Z := hk; ⟨(ZF.ins_Only).cl, ZF.na_Only_span⟩) fo_nil)
def fc_title (Z : Zs) : List Addr := [Z.Joint]
theorem fo_title (Z : Zs) : FldOk (HY Z) "title" (fc_title Z) := (fo_cons (fun K hk => haveI : ZF K Z := hk; ⟨(ZF.ins_Joint).cl, ZF.na_Joint_title⟩) fo_nil)
def fc_tree (Z : Zs) : List Addr := [Z.Only, Z.Shifted, Z.Flipped]
theorem fo_tree (Z : Zs) : FldOk (HY Z) "tree" (fc_tree Z) := (fo_cons (fun K hk => haveI : ZF K Z := hk; ⟨(ZF.ins_Only).cl, ZF.na_Only_tree⟩) (fo_cons (fun K hk => haveI : ZF K Z := hk; ⟨(ZF.ins_Shifted).cl, ZF.na_Shifted_tree⟩) (fo_cons (fun K hk => haveI : ZF K Z := hk; ⟨(ZF.ins_Flipped).cl, ZF.na_Flipped_tree⟩) fo_nil)))
def fc_value (Z : Zs) : List Addr := [Z.Flat]
theorem fo_value (Z : Zs) : FldOk (HY Z) "value" (fc_value Z) := (fo_cons (fun K hk => haveI : ZF K Z := hk; ⟨(ZF.ins_Flat).cl, ZF.na_Flat_value⟩) fo_nil)
def ec_FarError (Z : Zs) : List Addr := [Z.NoTree]
theorem eo_FarError (Z : Zs) : ExmOk (HY Z) (.ref Z.FarError) (ec_FarError Z) := (em_cons (fun K hk => haveI : ZF K Z := hk; ZF.exm_NoTree_FarError) em_nil)
def N_Rule_rule_word : List Str := ["self"]
noncomputable def b_Rule_rule_word (Z : Zs) : SS (HY Z) :=
  (.ret (.str ""))
noncomputable def F_Rule_rule_word (Z : Zs) : List D → M S := runF (b_Rule_rule_word Z) 1 1
def N_Over_rule_word : List Str := ["self"]
noncomputable def b_Over_rule_word (Z : Zs) : SS (HY Z) :=
  (.ret (.str "over"))
noncomputable def F_Over_rule_word (Z : Zs) : List D → M S := runF (b_Over_rule_word Z) 1 1
theorem F_Over_rule_word_eq {Z : Zs} {x0 : D} : F_Over_rule_word Z [x0] = fin ((b_Over_rule_word Z).f [.d x0]) := by kernel_rfl
def N_Where_rule_word : List Str := ["self"]
noncomputable def b_Where_rule_word (Z : Zs) : SS (HY Z) :=
  (.ret (.str "where"))
noncomputable def F_Where_rule_word (Z : Zs) : List D → M S := runF (b_Where_rule_word Z) 1 1
theorem F_Where_rule_word_eq {Z : Zs} {x0 : D} : F_Where_rule_word Z [x0] = fin ((b_Where_rule_word Z).f [.d x0]) := by kernel_rfl
def N_Without_rule_word : List Str := ["self"]
noncomputable def b_Without_rule_word (Z : Zs) : SS (HY Z) :=
  (.ret (.str "without"))
noncomputable def F_Without_rule_word (Z : Zs) : List D → M S := runF (b_Without_rule_word Z) 1 1
theorem F_Without_rule_word_eq {Z : Zs} {x0 : D} : F_Without_rule_word Z [x0] = fin ((b_Without_rule_word Z).f [.d x0]) := by kernel_rfl
def N_Sum_rule_word : List Str := ["self"]
noncomputable def b_Sum_rule_word (Z : Zs) : SS (HY Z) :=
  (.ret (.str "sum"))
noncomputable def F_Sum_rule_word (Z : Zs) : List D → M S := runF (b_Sum_rule_word Z) 1 1
theorem F_Sum_rule_word_eq {Z : Zs} {x0 : D} : F_Sum_rule_word Z [x0] = fin ((b_Sum_rule_word Z).f [.d x0]) := by kernel_rfl
def N_Less_rule_word : List Str := ["self"]
noncomputable def b_Less_rule_word (Z : Zs) : SS (HY Z) :=
  (.ret (.str "less"))
noncomputable def F_Less_rule_word (Z : Zs) : List D → M S := runF (b_Less_rule_word Z) 1 1
theorem F_Less_rule_word_eq {Z : Zs} {x0 : D} : F_Less_rule_word Z [x0] = fin ((b_Less_rule_word Z).f [.d x0]) := by kernel_rfl
def N_Least_rule_word : List Str := ["self"]
noncomputable def b_Least_rule_word (Z : Zs) : SS (HY Z) :=
  (.ret (.str "least"))
noncomputable def F_Least_rule_word (Z : Zs) : List D → M S := runF (b_Least_rule_word Z) 1 1
theorem F_Least_rule_word_eq {Z : Zs} {x0 : D} : F_Least_rule_word Z [x0] = fin ((b_Least_rule_word Z).f [.d x0]) := by kernel_rfl
def N_Greatest_rule_word : List Str := ["self"]
noncomputable def b_Greatest_rule_word (Z : Zs) : SS (HY Z) :=
  (.ret (.str "greatest"))
noncomputable def F_Greatest_rule_word (Z : Zs) : List D → M S := runF (b_Greatest_rule_word Z) 1 1
theorem F_Greatest_rule_word_eq {Z : Zs} {x0 : D} : F_Greatest_rule_word Z [x0] = fin ((b_Greatest_rule_word Z).f [.d x0]) := by kernel_rfl
def N_Same_rule_word : List Str := ["self"]
noncomputable def b_Same_rule_word (Z : Zs) : SS (HY Z) :=
  (.ret (.str "same"))
noncomputable def F_Same_rule_word (Z : Zs) : List D → M S := runF (b_Same_rule_word Z) 1 1
theorem F_Same_rule_word_eq {Z : Zs} {x0 : D} : F_Same_rule_word Z [x0] = fin ((b_Same_rule_word Z).f [.d x0]) := by kernel_rfl
def N_all_rules : List Str := []
noncomputable def b_all_rules (Z : Zs) : SS (HY Z) :=
  (.ret (.lst (.cons (.new0 Z.Over) (.cons (.new0 Z.Where) (.cons (.new0 Z.Without) (.cons (.new0 Z.Sum) (.cons (.new0 Z.Less) (.cons (.new0 Z.Least) (.cons (.new0 Z.Greatest) (.cons (.new0 Z.Same) .nil))))))))))
noncomputable def F_all_rules (Z : Zs) : List D → M S := runF (b_all_rules Z) 0 0
theorem F_all_rules_eq {Z : Zs} : F_all_rules Z [] = fin ((b_all_rules Z).f []) := by kernel_rfl
def N_is_kept : List Str := ["text", "rule"]
noncomputable def b_is_kept (Z : Zs) : SS (HY Z) :=
  (.ret (.orE (.op oIn (.var 0) (.tupK Z.tk_OWN_WORDS ["flat", "only", "shifted", "flipped"] (kt_OWN_WORDS Z))) (.op oIn (.var 0) (.lc (.seq (.call (F_all_rules Z) .nil)) (.name 1) .yes (.either (.meth Z.Rule "rule_word" (F_Rule_rule_word Z) (.var 1) .nil) (.either (.meth Z.Over "rule_word" (F_Over_rule_word Z) (.var 1) .nil) (.either (.meth Z.Where "rule_word" (F_Where_rule_word Z) (.var 1) .nil) (.either (.meth Z.Without "rule_word" (F_Without_rule_word Z) (.var 1) .nil) (.either (.meth Z.Sum "rule_word" (F_Sum_rule_word Z) (.var 1) .nil) (.either (.meth Z.Less "rule_word" (F_Less_rule_word Z) (.var 1) .nil) (.either (.meth Z.Least "rule_word" (F_Least_rule_word Z) (.var 1) .nil) (.either (.meth Z.Greatest "rule_word" (F_Greatest_rule_word Z) (.var 1) .nil) (.meth Z.Same "rule_word" (F_Same_rule_word Z) (.var 1) .nil))))))))) [1]))))
noncomputable def F_is_kept (Z : Zs) : List D → M S := runF (b_is_kept Z) 2 1
theorem F_is_kept_eq {Z : Zs} {x0 : D} : F_is_kept Z [x0] = fin ((b_is_kept Z).f [.d x0, .un]) := by kernel_rfl
def N_is_name : List Str := ["thing", "sign"]
noncomputable def b_is_name (Z : Zs) : SS (HY Z) :=
  (.seq (.ite (.or (.not (.tru (.cb (bIsi (TB Z) (TB_ok Z)) (.cons (.var 0) (.cons (.ty "str") .nil))))) (.not (.of (.chain oLe oLe (.int 1) (.cb bLen (.cons (.var 0) .nil)) (.int 8)))))
  (.ret (.bl false))
  .skip)
  (.ret (.andE (.cb bAll (.cons (.lc (.str (.var 0)) (.name 1) .yes (.op oIn (.var 1) (.str "abcdefghijklmnopqrstuvwxyz")) [1]) .nil)) (.notE (.call (F_is_kept Z) (.cons (.var 0) .nil))))))
noncomputable def F_is_name (Z : Zs) : List D → M S := runF (b_is_name Z) 2 1
theorem F_is_name_eq {Z : Zs} {x0 : D} : F_is_name Z [x0] = fin ((b_is_name Z).f [.d x0, .un]) := by kernel_rfl
def N_need_fit : List Str := ["good"]
noncomputable def b_need_fit (Z : Zs) : SS (HY Z) :=
  (.ite (.not (.tru (.var 0)))
  (.raise Z.NoTree)
  .skip)
noncomputable def F_need_fit (Z : Zs) : List D → M S := runF (b_need_fit Z) 1 1
theorem F_need_fit_eq {Z : Zs} {x0 : D} : F_need_fit Z [x0] = fin ((b_need_fit Z).f [.d x0]) := by kernel_rfl
def N_Named_init : List Str := ["self", "name"]
noncomputable def b_Named_init (Z : Zs) : SS (HY Z) :=
  (.seq (.drop (.callX (F_need_fit Z) (.cons (.call (F_is_name Z) (.cons (.var 1) .nil)) .nil)))
  (.setF 0 "name" (fc_name Z) (fo_name Z) (.var 1)))
noncomputable def F_Named_init (Z : Zs) : Addr → List D → M (List (Str × D)) := runI (b_Named_init Z) 2 2 Z.Named
theorem F_Named_init_eq {Z : Zs} {a : Addr} {x0 : D} : F_Named_init Z a [x0] = finI a Z.Named ((b_Named_init Z).f [.ob (some a) Z.Named [], .d x0]) := by kernel_rfl
def N_is_place : List Str := ["thing"]
noncomputable def b_is_place (Z : Zs) : SS (HY Z) :=
  (.ret (.andE (.cb (bIsi (TB Z) (TB_ok Z)) (.cons (.var 0) (.cons (.ty "int") .nil))) (.notE (.cb (bIsi (TB Z) (TB_ok Z)) (.cons (.var 0) (.cons (.ty "bool") .nil))))))
noncomputable def F_is_place (Z : Zs) : List D → M S := runF (b_is_place Z) 1 1
theorem F_is_place_eq {Z : Zs} {x0 : D} : F_is_place Z [x0] = fin ((b_is_place Z).f [.d x0]) := by kernel_rfl
def N_is_value : List Str := ["thing"]
noncomputable def b_is_value (Z : Zs) : SS (HY Z) :=
  (.ret (.orE (.op oIsN (.var 0) .non) (.call (F_is_place Z) (.cons (.var 0) .nil))))
noncomputable def F_is_value (Z : Zs) : List D → M S := runF (b_is_value Z) 1 1
theorem F_is_value_eq {Z : Zs} {x0 : D} : F_is_value Z [x0] = fin ((b_is_value Z).f [.d x0]) := by kernel_rfl
def N_Flat_init : List Str := ["self", "value"]
noncomputable def b_Flat_init (Z : Zs) : SS (HY Z) :=
  (.seq (.drop (.callX (F_need_fit Z) (.cons (.call (F_is_value Z) (.cons (.var 1) .nil)) .nil)))
  (.setF 0 "value" (fc_value Z) (fo_value Z) (.var 1)))
noncomputable def F_Flat_init (Z : Zs) : Addr → List D → M (List (Str × D)) := runI (b_Flat_init Z) 2 2 Z.Flat
theorem F_Flat_init_eq {Z : Zs} {a : Addr} {x0 : D} : F_Flat_init Z a [x0] = finI a Z.Flat ((b_Flat_init Z).f [.ob (some a) Z.Flat [], .d x0]) := by kernel_rfl
def N_is_span : List Str := ["thing", "end"]
noncomputable def b_is_span (Z : Zs) : SS (HY Z) :=
  (.seq (.ite (.or (.not (.tru (.cb (bIsi (TB Z) (TB_ok Z)) (.cons (.var 0) (.cons (.ty "tuple") .nil))))) (.of (.op oNe (.cb bLen (.cons (.var 0) .nil)) (.int 2))))
  (.ret (.bl false))
  .skip)
  (.seq (.ite (.not (.tru (.cb bAll (.cons (.lc (.seq (.var 0)) (.name 1) .yes (.orE (.op oIsN (.var 1) .non) (.call (F_is_place Z) (.cons (.var 1) .nil))) [1]) .nil))))
  (.ret (.bl false))
  .skip)
  (.ret (.orE (.op oIsN (.op oIx (.var 0) (.int 0)) .non) (.orE (.op oIsN (.op oIx (.var 0) (.int 1)) .non) (.op oLe (.op oIx (.var 0) (.int 0)) (.op oIx (.var 0) (.int 1))))))))
noncomputable def F_is_span (Z : Zs) : List D → M S := runF (b_is_span Z) 2 1
theorem F_is_span_eq {Z : Zs} {x0 : D} : F_is_span Z [x0] = fin ((b_is_span Z).f [.d x0, .un]) := by kernel_rfl
def N_Only_init : List Str := ["self", "tree", "span"]
noncomputable def b_Only_init (Z : Zs) : SS (HY Z) :=
  (.seq (.drop (.callX (F_need_fit Z) (.cons (.andE (.cb (bIsi (TB Z) (TB_ok Z)) (.cons (.var 1) (.cons (.cls Z.Tree) .nil))) (.call (F_is_span Z) (.cons (.var 2) .nil))) .nil)))
  (.seq (.setF 0 "tree" (fc_tree Z) (fo_tree Z) (.var 1))
  (.setF 0 "span" (fc_span Z) (fo_span Z) (.var 2))))
noncomputable def F_Only_init (Z : Zs) : Addr → List D → M (List (Str × D)) := runI (b_Only_init Z) 3 3 Z.Only
theorem F_Only_init_eq {Z : Zs} {a : Addr} {x0 x1 : D} : F_Only_init Z a [x0, x1] = finI a Z.Only ((b_Only_init Z).f [.ob (some a) Z.Only [], .d x0, .d x1]) := by kernel_rfl
def N_Shifted_init : List Str := ["self", "tree", "by"]
noncomputable def b_Shifted_init (Z : Zs) : SS (HY Z) :=
  (.seq (.drop (.callX (F_need_fit Z) (.cons (.andE (.cb (bIsi (TB Z) (TB_ok Z)) (.cons (.var 1) (.cons (.cls Z.Tree) .nil))) (.call (F_is_place Z) (.cons (.var 2) .nil))) .nil)))
  (.seq (.setF 0 "tree" (fc_tree Z) (fo_tree Z) (.var 1))
  (.setF 0 "by" (fc_by Z) (fo_by Z) (.var 2))))
noncomputable def F_Shifted_init (Z : Zs) : Addr → List D → M (List (Str × D)) := runI (b_Shifted_init Z) 3 3 Z.Shifted
theorem F_Shifted_init_eq {Z : Zs} {a : Addr} {x0 x1 : D} : F_Shifted_init Z a [x0, x1] = finI a Z.Shifted ((b_Shifted_init Z).f [.ob (some a) Z.Shifted [], .d x0, .d x1]) := by kernel_rfl
def N_Flipped_init : List Str := ["self", "tree", "about"]
noncomputable def b_Flipped_init (Z : Zs) : SS (HY Z) :=
  (.seq (.drop (.callX (F_need_fit Z) (.cons (.andE (.cb (bIsi (TB Z) (TB_ok Z)) (.cons (.var 1) (.cons (.cls Z.Tree) .nil))) (.call (F_is_place Z) (.cons (.var 2) .nil))) .nil)))
  (.seq (.setF 0 "tree" (fc_tree Z) (fo_tree Z) (.var 1))
  (.setF 0 "about" (fc_about Z) (fo_about Z) (.var 2))))
noncomputable def F_Flipped_init (Z : Zs) : Addr → List D → M (List (Str × D)) := runI (b_Flipped_init Z) 3 3 Z.Flipped
theorem F_Flipped_init_eq {Z : Zs} {a : Addr} {x0 x1 : D} : F_Flipped_init Z a [x0, x1] = finI a Z.Flipped ((b_Flipped_init Z).f [.ob (some a) Z.Flipped [], .d x0, .d x1]) := by kernel_rfl
def N_rule_by : List Str := ["text", "rule"]
noncomputable def b_rule_by_l1 (Z : Zs) : SS (HY Z) :=
  (.ite (.of (.op oEq (.either (.meth Z.Rule "rule_word" (F_Rule_rule_word Z) (.var 1) .nil) (.either (.meth Z.Over "rule_word" (F_Over_rule_word Z) (.var 1) .nil) (.either (.meth Z.Where "rule_word" (F_Where_rule_word Z) (.var 1) .nil) (.either (.meth Z.Without "rule_word" (F_Without_rule_word Z) (.var 1) .nil) (.either (.meth Z.Sum "rule_word" (F_Sum_rule_word Z) (.var 1) .nil) (.either (.meth Z.Less "rule_word" (F_Less_rule_word Z) (.var 1) .nil) (.either (.meth Z.Least "rule_word" (F_Least_rule_word Z) (.var 1) .nil) (.either (.meth Z.Greatest "rule_word" (F_Greatest_rule_word Z) (.var 1) .nil) (.meth Z.Same "rule_word" (F_Same_rule_word Z) (.var 1) .nil))))))))) (.var 0)))
  (.ret (.var 1))
  .skip)
noncomputable def b_rule_by (Z : Zs) : SS (HY Z) :=
  (.seq (.forS (.seq (.call (F_all_rules Z) .nil)) (.name 1) [1] (b_rule_by_l1 Z))
  (.ret .non))
noncomputable def F_rule_by (Z : Zs) : List D → M S := runF (b_rule_by Z) 2 1
theorem F_rule_by_eq {Z : Zs} {x0 : D} : F_rule_by Z [x0] = fin ((b_rule_by Z).f [.d x0, .un]) := by kernel_rfl
def N_Joint_init : List Str := ["self", "title", "one", "other"]
noncomputable def b_Joint_init (Z : Zs) : SS (HY Z) :=
  (.seq (.drop (.callX (F_need_fit Z) (.cons (.andE (.cb (bIsi (TB Z) (TB_ok Z)) (.cons (.var 1) (.cons (.ty "str") .nil))) (.op oNotN (.call (F_rule_by Z) (.cons (.var 1) .nil)) .non)) .nil)))
  (.seq (.drop (.callX (F_need_fit Z) (.cons (.andE (.cb (bIsi (TB Z) (TB_ok Z)) (.cons (.var 2) (.cons (.cls Z.Tree) .nil))) (.cb (bIsi (TB Z) (TB_ok Z)) (.cons (.var 3) (.cons (.cls Z.Tree) .nil)))) .nil)))
  (.seq (.setF 0 "title" (fc_title Z) (fo_title Z) (.var 1))
  (.seq (.setF 0 "one" (fc_one Z) (fo_one Z) (.var 2))
  (.setF 0 "other" (fc_other Z) (fo_other Z) (.var 3))))))
noncomputable def F_Joint_init (Z : Zs) : Addr → List D → M (List (Str × D)) := runI (b_Joint_init Z) 4 4 Z.Joint
theorem F_Joint_init_eq {Z : Zs} {a : Addr} {x0 x1 x2 : D} : F_Joint_init Z a [x0, x1, x2] = finI a Z.Joint ((b_Joint_init Z).f [.ob (some a) Z.Joint [], .d x0, .d x1, .d x2]) := by kernel_rfl
def N_Tree_limbs : List Str := ["self"]
noncomputable def b_Tree_limbs (Z : Zs) : SS (HY Z) :=
  (.ret (.tup .nil))
noncomputable def F_Tree_limbs (Z : Zs) : List D → M S := runF (b_Tree_limbs Z) 1 1
theorem F_Tree_limbs_eq {Z : Zs} {x0 : D} : F_Tree_limbs Z [x0] = fin ((b_Tree_limbs Z).f [.d x0]) := by kernel_rfl
def N_Tree_own_names : List Str := ["self"]
noncomputable def b_Tree_own_names (Z : Zs) : SS (HY Z) :=
  (.ret (.lst .nil))
noncomputable def F_Tree_own_names (Z : Zs) : List D → M S := runF (b_Tree_own_names Z) 1 1
theorem F_Tree_own_names_eq {Z : Zs} {x0 : D} : F_Tree_own_names Z [x0] = fin ((b_Tree_own_names Z).f [.d x0]) := by kernel_rfl
def N_Named_own_names : List Str := ["self"]
noncomputable def b_Named_own_names (Z : Zs) : SS (HY Z) :=
  (.ret (.lst (.cons (.fld "name" (fc_name Z) (fo_name Z) (.var 0)) .nil)))
noncomputable def F_Named_own_names (Z : Zs) : List D → M S := runF (b_Named_own_names Z) 1 1
theorem F_Named_own_names_eq {Z : Zs} {x0 : D} : F_Named_own_names Z [x0] = fin ((b_Named_own_names Z).f [.d x0]) := by kernel_rfl
def N_Named_told : List Str := ["self"]
noncomputable def b_Named_told (Z : Zs) : SS (HY Z) :=
  (.ret (.tup (.cons (.str "named") (.cons (.fld "name" (fc_name Z) (fo_name Z) (.var 0)) .nil))))
noncomputable def F_Named_told (Z : Zs) : List D → M S := runF (b_Named_told Z) 1 1
theorem F_Named_told_eq {Z : Zs} {x0 : D} : F_Named_told Z [x0] = fin ((b_Named_told Z).f [.d x0]) := by kernel_rfl
def N_Flat_told : List Str := ["self"]
noncomputable def b_Flat_told (Z : Zs) : SS (HY Z) :=
  (.ret (.tup (.cons (.str "flat") (.cons (.fld "value" (fc_value Z) (fo_value Z) (.var 0)) .nil))))
noncomputable def F_Flat_told (Z : Zs) : List D → M S := runF (b_Flat_told Z) 1 1
theorem F_Flat_told_eq {Z : Zs} {x0 : D} : F_Flat_told Z [x0] = fin ((b_Flat_told Z).f [.d x0]) := by kernel_rfl
def N_Only_limbs : List Str := ["self"]
noncomputable def b_Only_limbs (Z : Zs) : SS (HY Z) :=
  (.ret (.tup (.cons (.fld "tree" (fc_tree Z) (fo_tree Z) (.var 0)) .nil)))
noncomputable def F_Only_limbs (Z : Zs) : List D → M S := runF (b_Only_limbs Z) 1 1
theorem F_Only_limbs_eq {Z : Zs} {x0 : D} : F_Only_limbs Z [x0] = fin ((b_Only_limbs Z).f [.d x0]) := by kernel_rfl
def N_Joint_told : List Str := ["self"]
noncomputable def b_Joint_told (Z : Zs) (FF : Nat → List D → M S) : SS (HY Z) :=
  (.ret (.tup (.cons (.str "joint") (.cons (.fld "title" (fc_title Z) (fo_title Z) (.var 0)) (.cons (.either (.meth Z.Named "told" (F_Named_told Z) (.fld "one" (fc_one Z) (fo_one Z) (.var 0)) .nil) (.either (.meth Z.Flat "told" (F_Flat_told Z) (.fld "one" (fc_one Z) (fo_one Z) (.var 0)) .nil) (.either (.meth Z.Only "told" (FF 0) (.fld "one" (fc_one Z) (fo_one Z) (.var 0)) .nil) (.either (.meth Z.Shifted "told" (FF 1) (.fld "one" (fc_one Z) (fo_one Z) (.var 0)) .nil) (.either (.meth Z.Flipped "told" (FF 2) (.fld "one" (fc_one Z) (fo_one Z) (.var 0)) .nil) (.meth Z.Joint "told" (FF 3) (.fld "one" (fc_one Z) (fo_one Z) (.var 0)) .nil)))))) (.cons (.either (.meth Z.Named "told" (F_Named_told Z) (.fld "other" (fc_other Z) (fo_other Z) (.var 0)) .nil) (.either (.meth Z.Flat "told" (F_Flat_told Z) (.fld "other" (fc_other Z) (fo_other Z) (.var 0)) .nil) (.either (.meth Z.Only "told" (FF 0) (.fld "other" (fc_other Z) (fo_other Z) (.var 0)) .nil) (.either (.meth Z.Shifted "told" (FF 1) (.fld "other" (fc_other Z) (fo_other Z) (.var 0)) .nil) (.either (.meth Z.Flipped "told" (FF 2) (.fld "other" (fc_other Z) (fo_other Z) (.var 0)) .nil) (.meth Z.Joint "told" (FF 3) (.fld "other" (fc_other Z) (fo_other Z) (.var 0)) .nil)))))) .nil))))))
def N_Flipped_told : List Str := ["self"]
noncomputable def b_Flipped_told (Z : Zs) (FF : Nat → List D → M S) : SS (HY Z) :=
  (.ret (.tup (.cons (.str "flipped") (.cons (.either (.meth Z.Named "told" (F_Named_told Z) (.fld "tree" (fc_tree Z) (fo_tree Z) (.var 0)) .nil) (.either (.meth Z.Flat "told" (F_Flat_told Z) (.fld "tree" (fc_tree Z) (fo_tree Z) (.var 0)) .nil) (.either (.meth Z.Only "told" (FF 0) (.fld "tree" (fc_tree Z) (fo_tree Z) (.var 0)) .nil) (.either (.meth Z.Shifted "told" (FF 1) (.fld "tree" (fc_tree Z) (fo_tree Z) (.var 0)) .nil) (.either (.meth Z.Flipped "told" (FF 2) (.fld "tree" (fc_tree Z) (fo_tree Z) (.var 0)) .nil) (.meth Z.Joint "told" (FF 3) (.fld "tree" (fc_tree Z) (fo_tree Z) (.var 0)) .nil)))))) (.cons (.fld "about" (fc_about Z) (fo_about Z) (.var 0)) .nil)))))
def N_Shifted_told : List Str := ["self"]
noncomputable def b_Shifted_told (Z : Zs) (FF : Nat → List D → M S) : SS (HY Z) :=
  (.ret (.tup (.cons (.str "shifted") (.cons (.either (.meth Z.Named "told" (F_Named_told Z) (.fld "tree" (fc_tree Z) (fo_tree Z) (.var 0)) .nil) (.either (.meth Z.Flat "told" (F_Flat_told Z) (.fld "tree" (fc_tree Z) (fo_tree Z) (.var 0)) .nil) (.either (.meth Z.Only "told" (FF 0) (.fld "tree" (fc_tree Z) (fo_tree Z) (.var 0)) .nil) (.either (.meth Z.Shifted "told" (FF 1) (.fld "tree" (fc_tree Z) (fo_tree Z) (.var 0)) .nil) (.either (.meth Z.Flipped "told" (FF 2) (.fld "tree" (fc_tree Z) (fo_tree Z) (.var 0)) .nil) (.meth Z.Joint "told" (FF 3) (.fld "tree" (fc_tree Z) (fo_tree Z) (.var 0)) .nil)))))) (.cons (.fld "by" (fc_by Z) (fo_by Z) (.var 0)) .nil)))))
def N_Only_told : List Str := ["self"]
noncomputable def b_Only_told (Z : Zs) (FF : Nat → List D → M S) : SS (HY Z) :=
  (.ret (.tup (.cons (.str "only") (.cons (.either (.meth Z.Named "told" (F_Named_told Z) (.fld "tree" (fc_tree Z) (fo_tree Z) (.var 0)) .nil) (.either (.meth Z.Flat "told" (F_Flat_told Z) (.fld "tree" (fc_tree Z) (fo_tree Z) (.var 0)) .nil) (.either (.meth Z.Only "told" (FF 0) (.fld "tree" (fc_tree Z) (fo_tree Z) (.var 0)) .nil) (.either (.meth Z.Shifted "told" (FF 1) (.fld "tree" (fc_tree Z) (fo_tree Z) (.var 0)) .nil) (.either (.meth Z.Flipped "told" (FF 2) (.fld "tree" (fc_tree Z) (fo_tree Z) (.var 0)) .nil) (.meth Z.Joint "told" (FF 3) (.fld "tree" (fc_tree Z) (fo_tree Z) (.var 0)) .nil)))))) (.cons (.fld "span" (fc_span Z) (fo_span Z) (.var 0)) .nil)))))
noncomputable def Fg_0 (Z : Zs) : Nat → Nat → List D → M S
  | 0 => fun i => match i with | 0 => runF (b_Only_told Z fun _ _ => .no) 1 1 | 1 => runF (b_Shifted_told Z fun _ _ => .no) 1 1 | 2 => runF (b_Flipped_told Z fun _ _ => .no) 1 1 | 3 => runF (b_Joint_told Z fun _ _ => .no) 1 1 | _ => fun _ => .no
  | n + 1 => fun i => match i with | 0 => runF (b_Only_told Z (Fg_0 Z n)) 1 1 | 1 => runF (b_Shifted_told Z (Fg_0 Z n)) 1 1 | 2 => runF (b_Flipped_told Z (Fg_0 Z n)) 1 1 | 3 => runF (b_Joint_told Z (Fg_0 Z n)) 1 1 | _ => fun _ => .no
noncomputable def F_Only_told (Z : Zs) : List D → M S := Fg_0 Z 13 0
theorem F_Only_told_s {Z : Zs} {n : Nat} {x0 : D} : Fg_0 Z (n + 1) 0 [x0] = fin ((b_Only_told Z (Fg_0 Z n)).f [.d x0]) := by kernel_rfl
noncomputable def F_Shifted_told (Z : Zs) : List D → M S := Fg_0 Z 13 1
theorem F_Shifted_told_s {Z : Zs} {n : Nat} {x0 : D} : Fg_0 Z (n + 1) 1 [x0] = fin ((b_Shifted_told Z (Fg_0 Z n)).f [.d x0]) := by kernel_rfl
noncomputable def F_Flipped_told (Z : Zs) : List D → M S := Fg_0 Z 13 2
theorem F_Flipped_told_s {Z : Zs} {n : Nat} {x0 : D} : Fg_0 Z (n + 1) 2 [x0] = fin ((b_Flipped_told Z (Fg_0 Z n)).f [.d x0]) := by kernel_rfl
noncomputable def F_Joint_told (Z : Zs) : List D → M S := Fg_0 Z 13 3
theorem F_Joint_told_s {Z : Zs} {n : Nat} {x0 : D} : Fg_0 Z (n + 1) 3 [x0] = fin ((b_Joint_told Z (Fg_0 Z n)).f [.d x0]) := by kernel_rfl
def N_Shifted_limbs : List Str := ["self"]
noncomputable def b_Shifted_limbs (Z : Zs) : SS (HY Z) :=
  (.ret (.tup (.cons (.fld "tree" (fc_tree Z) (fo_tree Z) (.var 0)) .nil)))
noncomputable def F_Shifted_limbs (Z : Zs) : List D → M S := runF (b_Shifted_limbs Z) 1 1
theorem F_Shifted_limbs_eq {Z : Zs} {x0 : D} : F_Shifted_limbs Z [x0] = fin ((b_Shifted_limbs Z).f [.d x0]) := by kernel_rfl
def N_Flipped_limbs : List Str := ["self"]
noncomputable def b_Flipped_limbs (Z : Zs) : SS (HY Z) :=
  (.ret (.tup (.cons (.fld "tree" (fc_tree Z) (fo_tree Z) (.var 0)) .nil)))
noncomputable def F_Flipped_limbs (Z : Zs) : List D → M S := runF (b_Flipped_limbs Z) 1 1
theorem F_Flipped_limbs_eq {Z : Zs} {x0 : D} : F_Flipped_limbs Z [x0] = fin ((b_Flipped_limbs Z).f [.d x0]) := by kernel_rfl
def N_Joint_limbs : List Str := ["self"]
noncomputable def b_Joint_limbs (Z : Zs) : SS (HY Z) :=
  (.ret (.tup (.cons (.fld "one" (fc_one Z) (fo_one Z) (.var 0)) (.cons (.fld "other" (fc_other Z) (fo_other Z) (.var 0)) .nil))))
noncomputable def F_Joint_limbs (Z : Zs) : List D → M S := runF (b_Joint_limbs Z) 1 1
theorem F_Joint_limbs_eq {Z : Zs} {x0 : D} : F_Joint_limbs Z [x0] = fin ((b_Joint_limbs Z).f [.d x0]) := by kernel_rfl
def N_all_parts : List Str := ["tree", "found", "limb"]
noncomputable def b_all_parts_l1 (Z : Zs) (FF : List D → M S) : SS (HY Z) :=
  (.setD 1 (.op oAdd (.var 1) (.call FF (.cons (.var 2) .nil))))
noncomputable def b_all_parts (Z : Zs) (FF : List D → M S) : SS (HY Z) :=
  (.seq (.setD 1 (.lst (.cons (.var 0) .nil)))
  (.seq (.forS (.seq (.either (.meth Z.Tree "limbs" (F_Tree_limbs Z) (.var 0) .nil) (.either (.meth Z.Named "limbs" (F_Tree_limbs Z) (.var 0) .nil) (.either (.meth Z.Flat "limbs" (F_Tree_limbs Z) (.var 0) .nil) (.either (.meth Z.Only "limbs" (F_Only_limbs Z) (.var 0) .nil) (.either (.meth Z.Shifted "limbs" (F_Shifted_limbs Z) (.var 0) .nil) (.either (.meth Z.Flipped "limbs" (F_Flipped_limbs Z) (.var 0) .nil) (.meth Z.Joint "limbs" (F_Joint_limbs Z) (.var 0) .nil)))))))) (.name 2) [2] (b_all_parts_l1 Z FF))
  (.ret (.var 1))))
noncomputable def Fn_all_parts (Z : Zs) : Nat → List D → M S
  | 0 => runF (b_all_parts Z fun _ => .no) 3 1
  | n + 1 => runF (b_all_parts Z (Fn_all_parts Z n)) 3 1
noncomputable def F_all_parts (Z : Zs) : List D → M S := Fn_all_parts Z 13
theorem F_all_parts_0 {Z : Zs} {x0 : D} : Fn_all_parts Z 0 [x0] = fin ((b_all_parts Z fun _ => .no).f [.d x0, .un, .un]) := by kernel_rfl
theorem F_all_parts_s {Z : Zs} {n : Nat} {x0 : D} : Fn_all_parts Z (n + 1) [x0] = fin ((b_all_parts Z (Fn_all_parts Z n)).f [.d x0, .un, .un]) := by kernel_rfl
def N_names_in : List Str := ["tree", "found", "part"]
noncomputable def b_names_in_l1 (Z : Zs) : SS (HY Z) :=
  (.setD 1 (.op oAdd (.var 1) (.either (.meth Z.Tree "own_names" (F_Tree_own_names Z) (.var 2) .nil) (.either (.meth Z.Named "own_names" (F_Named_own_names Z) (.var 2) .nil) (.either (.meth Z.Flat "own_names" (F_Tree_own_names Z) (.var 2) .nil) (.either (.meth Z.Only "own_names" (F_Tree_own_names Z) (.var 2) .nil) (.either (.meth Z.Shifted "own_names" (F_Tree_own_names Z) (.var 2) .nil) (.either (.meth Z.Flipped "own_names" (F_Tree_own_names Z) (.var 2) .nil) (.meth Z.Joint "own_names" (F_Tree_own_names Z) (.var 2) .nil)))))))))
noncomputable def b_names_in (Z : Zs) : SS (HY Z) :=
  (.seq (.setD 1 (.lst .nil))
  (.seq (.forS (.seq (.call (F_all_parts Z) (.cons (.var 0) .nil))) (.name 2) [2] (b_names_in_l1 Z))
  (.ret (.sortTx (.var 1)))))
noncomputable def F_names_in (Z : Zs) : List D → M S := runF (b_names_in Z) 3 1
theorem F_names_in_eq {Z : Zs} {x0 : D} : F_names_in Z [x0] = fin ((b_names_in Z).f [.d x0, .un, .un]) := by kernel_rfl
def N_parts_in : List Str := ["tree"]
noncomputable def b_parts_in (Z : Zs) : SS (HY Z) :=
  (.ret (.cb bLen (.cons (.call (F_all_parts Z) (.cons (.var 0) .nil)) .nil)))
noncomputable def F_parts_in (Z : Zs) : List D → M S := runF (b_parts_in Z) 1 1
theorem F_parts_in_eq {Z : Zs} {x0 : D} : F_parts_in Z [x0] = fin ((b_parts_in Z).f [.d x0]) := by kernel_rfl
def N_l_cell : List Str := ["_law_script", "_law_k", "_law_cell_here", "_law_more"]
noncomputable def b_l_cell (Z : Zs) : SS (HY Z) :=
  (.seq (.setD 2 (.op oAdd (.op oMul (.int 7919) (.var 1)) (.int 11)))
  (.seq (.ite (.of (.op oNe (.var 0) (.lst .nil)))
  (.seq (.setD 2 (.op oMul (.op oIx (.var 0) (.op oMod (.var 1) (.cb bLen (.cons (.var 0) .nil)))) (.int 48271)))
  (.setD 2 (.op oAdd (.op oAdd (.var 2) (.op oMul (.int 104729) (.var 1))) (.op oMul (.op oDiv (.var 1) (.cb bLen (.cons (.var 0) .nil))) (.int 7919)))))
  .skip)
  (.seq (.setD 3 (.op oMod (.var 2) (.int 2147483647)))
  (.seq (.setD 3 (.op oMod (.op oMul (.var 3) (.var 3)) (.int 2147483629)))
  (.ret (.op oMod (.op oAdd (.op oAdd (.op oMul (.var 3) (.var 3)) (.op oMul (.int 69621) (.var 3))) (.var 1)) (.int 2147483587)))))))
noncomputable def F_l_cell (Z : Zs) : List D → M S := runF (b_l_cell Z) 4 2
theorem F_l_cell_eq {Z : Zs} {x0 x1 : D} : F_l_cell Z [x0, x1] = fin ((b_l_cell Z).f [.d x0, .d x1, .un, .un]) := by kernel_rfl
def N_l_value : List Str := ["_law_cell_here", "_law_great", "_law_way"]
noncomputable def b_l_value (Z : Zs) : SS (HY Z) :=
  (.seq (.setD 1 (.op oMul (.op oMul (.var 0) (.var 0)) (.var 0)))
  (.seq (.setD 1 (.op oMod (.op oMul (.op oMul (.var 1) (.var 1)) (.var 0)) (.op oPow (.int 10) (.int 60))))
  (.seq (.setD 2 (.op oMod (.var 0) (.int 12)))
  (.seq (.ite (.of (.op oLt (.var 2) (.int 9)))
  (.ret (.op oIx (.lst (.cons .non (.cons (.int 0) (.cons (.int 1) (.cons (.int 5) (.cons .non (.cons (.int 1) (.cons (.un oNeg (.int 1)) (.cons (.int 2) (.cons (.int 5) .nil)))))))))) (.var 2)))
  .skip)
  (.ret (.op oIx (.lst (.cons (.op oSub (.op oMod (.op oDiv (.var 0) (.int 12)) (.int 100)) (.int 50)) (.cons (.var 1) (.cons (.un oNeg (.var 1)) .nil)))) (.op oSub (.var 2) (.int 9))))))))
noncomputable def F_l_value (Z : Zs) : List D → M S := runF (b_l_value Z) 3 1
theorem F_l_value_eq {Z : Zs} {x0 : D} : F_l_value Z [x0] = fin ((b_l_value Z).f [.d x0, .un, .un]) := by kernel_rfl
def N_l_word_of : List Str := ["_law_error", "_law_some", "_law_names_here"]
noncomputable def b_l_word_of (Z : Zs) : SS (HY Z) :=
  (.seq (.setD 1 (.lst (.cons (.cb (bIsi (TB Z) (TB_ok Z)) (.cons (.var 0) (.cons (.cls Z.NoSpan) .nil))) (.cons (.cb (bIsi (TB Z) (TB_ok Z)) (.cons (.var 0) (.cons (.cls Z.NoValue) .nil))) (.cons (.cb (bIsi (TB Z) (TB_ok Z)) (.cons (.var 0) (.cons (.cls Z.NoPlace) .nil))) .nil)))))
  (.seq (.setD 1 (.op oAdd (.var 1) (.lst (.cons (.cb (bIsi (TB Z) (TB_ok Z)) (.cons (.var 0) (.cons (.cls Z.NoCount) .nil))) (.cons (.cb (bIsi (TB Z) (TB_ok Z)) (.cons (.var 0) (.cons (.cls Z.NoRow) .nil))) (.cons (.cb (bIsi (TB Z) (TB_ok Z)) (.cons (.var 0) (.cons (.cls Z.NoWord) .nil))) .nil))))))
  (.seq (.setD 1 (.op oAdd (.var 1) (.lst (.cons (.cb (bIsi (TB Z) (TB_ok Z)) (.cons (.var 0) (.cons (.cls Z.NoName) .nil))) (.cons (.cb (bIsi (TB Z) (TB_ok Z)) (.cons (.var 0) (.cons (.cls Z.NoTree) .nil))) (.cons (.cb (bIsi (TB Z) (TB_ok Z)) (.cons (.var 0) (.cons (.cls Z.TooMany) .nil))) .nil))))))
  (.seq (.setD 1 (.op oAdd (.var 1) (.lst (.cons (.cb (bIsi (TB Z) (TB_ok Z)) (.cons (.var 0) (.cons (.cls Z.NoText) .nil))) (.cons (.cb (bIsi (TB Z) (TB_ok Z)) (.cons (.var 0) (.cons (.cls Z.NoWheel) .nil))) (.cons (.cb (bIsi (TB Z) (TB_ok Z)) (.cons (.var 0) (.cons (.cls Z.NoWalker) .nil))) .nil))))))
  (.seq (.setD 2 (.lst (.cons (.str "NoSpan") (.cons (.str "NoValue") (.cons (.str "NoPlace") (.cons (.str "NoCount") (.cons (.str "NoRow") (.cons (.str "NoWord") (.cons (.str "NoName") (.cons (.str "NoTree") (.cons (.str "TooMany") .nil)))))))))))
  (.seq (.setD 2 (.op oAdd (.var 2) (.lst (.cons (.str "NoText") (.cons (.str "NoWheel") (.cons (.str "NoWalker") .nil))))))
  (.seq (.ite (.or (.of (.op oNe (.either (.cnt (.var 1) (.cons (.bl true) .nil)) (.cntT (.var 1) (.cons (.bl true) .nil))) (.int 1))) (.or (.not (.tru (.cb (bIsi (TB Z) (TB_ok Z)) (.cons (.var 0) (.cons (.ty "ValueError") .nil))))) (.tru (.cb (bIsi (TB Z) (TB_ok Z)) (.cons (.var 0) (.cons (.tup (.cons (.cls Z.NoState) (.cons (.cls Z.NoVersion) .nil))) .nil))))))
  (.ret (.str "other"))
  .skip)
  (.ret (.op oIx (.var 2) (.idx (.var 1) (.cons (.bl true) .nil)))))))))))
noncomputable def F_l_word_of (Z : Zs) : List D → M S := runF (b_l_word_of Z) 3 1
theorem F_l_word_of_eq {Z : Zs} {x0 : D} : F_l_word_of Z [x0] = fin ((b_l_word_of Z).f [.d x0, .un, .un]) := by kernel_rfl
def N_l_titles : List Str := []
noncomputable def b_l_titles (Z : Zs) : SS (HY Z) :=
  (.ret (.lst (.cons (.str "over") (.cons (.str "where") (.cons (.str "without") (.cons (.str "sum") (.cons (.str "less") (.cons (.str "least") (.cons (.str "greatest") (.cons (.str "same") .nil))))))))))
noncomputable def F_l_titles (Z : Zs) : List D → M S := runF (b_l_titles Z) 0 0
theorem F_l_titles_eq {Z : Zs} : F_l_titles Z [] = fin ((b_l_titles Z).f []) := by kernel_rfl
def N_l_names : List Str := []
noncomputable def b_l_names (Z : Zs) : SS (HY Z) :=
  (.ret (.lst (.cons (.str "a") (.cons (.str "b") (.cons (.str "row") (.cons (.str "abcdefgh") (.cons (.str "turned") (.cons (.str "named") .nil))))))))
noncomputable def F_l_names (Z : Zs) : List D → M S := runF (b_l_names Z) 0 0
theorem F_l_names_eq {Z : Zs} : F_l_names Z [] = fin ((b_l_names Z).f []) := by kernel_rfl
def N_l_near_span : List Str := ["_law_cell_here", "_law_first", "_law_last", "_law_some"]
noncomputable def b_l_near_span (Z : Zs) : SS (HY Z) :=
  (.seq (.setD 1 (.op oSub (.op oMod (.op oDiv (.var 0) (.int 9)) (.int 25)) (.int 12)))
  (.seq (.setD 2 (.op oAdd (.var 1) (.op oMod (.op oDiv (.var 0) (.int 300)) (.int 14))))
  (.seq (.setD 3 (.lst (.cons (.tup (.cons (.var 1) (.cons (.var 2) .nil))) (.cons (.tup (.cons (.var 1) (.cons (.var 2) .nil))) (.cons (.tup (.cons .non (.cons (.var 2) .nil))) (.cons (.tup (.cons (.var 1) (.cons .non .nil))) (.cons (.tup (.cons .non (.cons .non .nil))) (.cons (.tup (.cons (.var 1) (.cons (.var 1) .nil))) .nil))))))))
  (.ret (.op oIx (.op oAdd (.var 3) (.lst (.cons (.tup (.cons (.var 1) (.cons (.var 2) .nil))) (.cons (.tup (.cons .non (.cons (.var 2) .nil))) (.cons (.tup (.cons (.var 1) (.cons .non .nil))) .nil))))) (.op oMod (.var 0) (.int 9)))))))
noncomputable def F_l_near_span (Z : Zs) : List D → M S := runF (b_l_near_span Z) 4 1
theorem F_l_near_span_eq {Z : Zs} {x0 : D} : F_l_near_span Z [x0] = fin ((b_l_near_span Z).f [.d x0, .un, .un, .un]) := by kernel_rfl
def N_l_tree : List Str := ["_law_script", "_law_base", "_law_node", "_law_deep", "_law_cell_here", "_law_more", "_law_way", "_law_one"]
noncomputable def b_l_tree (Z : Zs) (FF : List D → M S) : SS (HY Z) :=
  (.seq (.setD 4 (.call (F_l_cell Z) (.cons (.var 0) (.cons (.op oAdd (.var 1) (.var 2)) .nil))))
  (.seq (.setD 5 (.op oDiv (.var 4) (.int 17)))
  (.seq (.setD 6 (.op oIx (.lst (.cons (.int 0) (.cons (.int 0) (.cons (.int 1) (.cons (.int 2) (.cons (.int 2) (.cons (.int 3) (.cons (.int 3) (.cons (.int 4) (.cons (.int 4) (.cons (.int 5) (.cons (.int 5) (.cons (.int 5) (.cons (.int 5) (.cons (.int 5) (.cons (.int 2) (.cons (.int 3) (.cons (.int 4) .nil)))))))))))))))))) (.op oMod (.var 4) (.int 17))))
  (.seq (.ite (.of (.op oEq (.var 3) (.int 0)))
  (.setD 6 (.op oDiv (.op oMod (.var 6) (.int 3)) (.int 2)))
  .skip)
  (.seq (.ite (.of (.op oEq (.var 6) (.int 0)))
  (.ret (.tup (.cons (.str "named") (.cons (.op oIx (.call (F_l_names Z) .nil) (.op oMod (.var 5) (.int 6))) .nil))))
  .skip)
  (.seq (.ite (.of (.op oEq (.var 6) (.int 1)))
  (.ret (.tup (.cons (.str "flat") (.cons (.op oIx (.lst (.cons .non (.cons .non (.cons (.call (F_l_value Z) (.cons (.var 5) .nil)) .nil)))) (.op oMod (.var 5) (.int 3))) .nil))))
  .skip)
  (.seq (.setD 7 (.call FF (.cons (.var 0) (.cons (.var 1) (.cons (.op oMul (.int 2) (.var 2)) (.cons (.op oSub (.var 3) (.int 1)) .nil))))))
  (.seq (.ite (.of (.op oEq (.var 6) (.int 2)))
  (.ret (.tup (.cons (.str "only") (.cons (.var 7) (.cons (.call (F_l_near_span Z) (.cons (.var 5) .nil)) .nil)))))
  .skip)
  (.seq (.ite (.of (.op oEq (.var 6) (.int 3)))
  (.ret (.tup (.cons (.str "shifted") (.cons (.var 7) (.cons (.op oSub (.op oMod (.var 5) (.int 15)) (.int 7)) .nil)))))
  .skip)
  (.seq (.ite (.of (.op oEq (.var 6) (.int 4)))
  (.ret (.tup (.cons (.str "flipped") (.cons (.var 7) (.cons (.op oSub (.op oMod (.var 5) (.int 15)) (.int 7)) .nil)))))
  .skip)
  (.ret (.tup (.cons (.str "joint") (.cons (.op oIx (.call (F_l_titles Z) .nil) (.op oMod (.var 5) (.int 8))) (.cons (.var 7) (.cons (.call FF (.cons (.var 0) (.cons (.var 1) (.cons (.op oAdd (.op oMul (.int 2) (.var 2)) (.int 1)) (.cons (.op oSub (.var 3) (.int 1)) .nil))))) .nil))))))))))))))))
noncomputable def Fn_l_tree (Z : Zs) : Nat → List D → M S
  | 0 => runF (b_l_tree Z fun _ => .no) 8 4
  | n + 1 => runF (b_l_tree Z (Fn_l_tree Z n)) 8 4
noncomputable def F_l_tree (Z : Zs) : List D → M S := Fn_l_tree Z 6
theorem F_l_tree_0 {Z : Zs} {x0 x1 x2 x3 : D} : Fn_l_tree Z 0 [x0, x1, x2, x3] = fin ((b_l_tree Z fun _ => .no).f [.d x0, .d x1, .d x2, .d x3, .un, .un, .un, .un]) := by kernel_rfl
theorem F_l_tree_s {Z : Zs} {n : Nat} {x0 x1 x2 x3 : D} : Fn_l_tree Z (n + 1) [x0, x1, x2, x3] = fin ((b_l_tree Z (Fn_l_tree Z n)).f [.d x0, .d x1, .d x2, .d x3, .un, .un, .un, .un]) := by kernel_rfl
def N_l_made : List Str := ["_law_told_tree", "_law_word", "_law_one"]
noncomputable def b_l_made (Z : Zs) (FF : List D → M S) : SS (HY Z) :=
  (.seq (.setD 1 (.op oIx (.var 0) (.int 0)))
  (.seq (.ite (.of (.op oEq (.var 1) (.str "named")))
  (.ret (.make Z.Named (F_Named_init Z) (.cons (.op oIx (.var 0) (.int 1)) .nil)))
  .skip)
  (.seq (.ite (.of (.op oEq (.var 1) (.str "flat")))
  (.ret (.make Z.Flat (F_Flat_init Z) (.cons (.op oIx (.var 0) (.int 1)) .nil)))
  .skip)
  (.seq (.ite (.of (.op oEq (.var 1) (.str "joint")))
  (.ret (.make Z.Joint (F_Joint_init Z) (.cons (.op oIx (.var 0) (.int 1)) (.cons (.call FF (.cons (.op oIx (.var 0) (.int 2)) .nil)) (.cons (.call FF (.cons (.op oIx (.var 0) (.int 3)) .nil)) .nil)))))
  .skip)
  (.seq (.setD 2 (.call FF (.cons (.op oIx (.var 0) (.int 1)) .nil)))
  (.seq (.ite (.of (.op oEq (.var 1) (.str "only")))
  (.ret (.make Z.Only (F_Only_init Z) (.cons (.var 2) (.cons (.op oIx (.var 0) (.int 2)) .nil))))
  .skip)
  (.seq (.ite (.of (.op oEq (.var 1) (.str "shifted")))
  (.ret (.make Z.Shifted (F_Shifted_init Z) (.cons (.var 2) (.cons (.op oIx (.var 0) (.int 2)) .nil))))
  .skip)
  (.ret (.make Z.Flipped (F_Flipped_init Z) (.cons (.var 2) (.cons (.op oIx (.var 0) (.int 2)) .nil)))))))))))
noncomputable def Fn_l_made (Z : Zs) : Nat → List D → M S
  | 0 => runF (b_l_made Z fun _ => .no) 3 1
  | n + 1 => runF (b_l_made Z (Fn_l_made Z n)) 3 1
noncomputable def F_l_made (Z : Zs) : List D → M S := Fn_l_made Z 13
theorem F_l_made_0 {Z : Zs} {x0 : D} : Fn_l_made Z 0 [x0] = fin ((b_l_made Z fun _ => .no).f [.d x0, .un, .un]) := by kernel_rfl
theorem F_l_made_s {Z : Zs} {n : Nat} {x0 : D} : Fn_l_made Z (n + 1) [x0] = fin ((b_l_made Z (Fn_l_made Z n)).f [.d x0, .un, .un]) := by kernel_rfl
def N_l_kinds : List Str := ["_law_tree_here", "_law_some", "_law_limb", "_law_found"]
noncomputable def b_l_kinds_l1 (Z : Zs) (FF : List D → M S) : SS (HY Z) :=
  (.setD 3 (.op oAdd (.var 3) (.call FF (.cons (.var 2) .nil))))
noncomputable def b_l_kinds (Z : Zs) (FF : List D → M S) : SS (HY Z) :=
  (.seq (.ite (.of (.op oIn (.op oIx (.var 0) (.int 0)) (.lst (.cons (.str "named") (.cons (.str "flat") .nil)))))
  (.ret (.lst (.cons (.op oIx (.var 0) (.int 0)) .nil)))
  .skip)
  (.seq (.setD 1 (.lc (.seq (.sl (.var 0) (.some (.int 1)) .none)) (.name 2) (.and (.tru (.cb (bIsi (TB Z) (TB_ok Z)) (.cons (.var 2) (.cons (.ty "tuple") .nil)))) (.and (.of (.op oGt (.cb bLen (.cons (.var 2) .nil)) (.int 1))) (.tru (.cb (bIsi (TB Z) (TB_ok Z)) (.cons (.op oIx (.var 2) (.int 0)) (.cons (.ty "str") .nil)))))) (.var 2) [2]))
  (.seq (.setD 3 (.lst (.cons (.op oIx (.var 0) (.int 0)) .nil)))
  (.seq (.forS (.seq (.var 1)) (.name 2) [2] (b_l_kinds_l1 Z FF))
  (.ret (.var 3))))))
noncomputable def Fn_l_kinds (Z : Zs) : Nat → List D → M S
  | 0 => runF (b_l_kinds Z fun _ => .no) 4 1
  | n + 1 => runF (b_l_kinds Z (Fn_l_kinds Z n)) 4 1
noncomputable def F_l_kinds (Z : Zs) : List D → M S := Fn_l_kinds Z 13
theorem F_l_kinds_0 {Z : Zs} {x0 : D} : Fn_l_kinds Z 0 [x0] = fin ((b_l_kinds Z fun _ => .no).f [.d x0, .un, .un, .un]) := by kernel_rfl
theorem F_l_kinds_s {Z : Zs} {n : Nat} {x0 : D} : Fn_l_kinds Z (n + 1) [x0] = fin ((b_l_kinds Z (Fn_l_kinds Z n)).f [.d x0, .un, .un, .un]) := by kernel_rfl
def N_l_names_of : List Str := ["_law_tree_here", "_law_found", "_law_limb"]
noncomputable def b_l_names_of_l1 (Z : Zs) (FF : List D → M S) : SS (HY Z) :=
  (.ite (.and (.tru (.cb (bIsi (TB Z) (TB_ok Z)) (.cons (.var 2) (.cons (.ty "tuple") .nil)))) (.and (.of (.op oGt (.cb bLen (.cons (.var 2) .nil)) (.int 1))) (.tru (.cb (bIsi (TB Z) (TB_ok Z)) (.cons (.op oIx (.var 2) (.int 0)) (.cons (.ty "str") .nil))))))
  (.setD 1 (.op oAdd (.var 1) (.call FF (.cons (.var 2) .nil))))
  .skip)
noncomputable def b_l_names_of (Z : Zs) (FF : List D → M S) : SS (HY Z) :=
  (.seq (.ite (.of (.op oEq (.op oIx (.var 0) (.int 0)) (.str "named")))
  (.ret (.lst (.cons (.op oIx (.var 0) (.int 1)) .nil)))
  .skip)
  (.seq (.setD 1 (.lst .nil))
  (.seq (.forS (.seq (.sl (.var 0) (.some (.int 1)) .none)) (.name 2) [2] (b_l_names_of_l1 Z FF))
  (.ret (.var 1)))))
noncomputable def Fn_l_names_of (Z : Zs) : Nat → List D → M S
  | 0 => runF (b_l_names_of Z fun _ => .no) 3 1
  | n + 1 => runF (b_l_names_of Z (Fn_l_names_of Z n)) 3 1
noncomputable def F_l_names_of (Z : Zs) : List D → M S := Fn_l_names_of Z 13
theorem F_l_names_of_0 {Z : Zs} {x0 : D} : Fn_l_names_of Z 0 [x0] = fin ((b_l_names_of Z fun _ => .no).f [.d x0, .un, .un]) := by kernel_rfl
theorem F_l_names_of_s {Z : Zs} {n : Nat} {x0 : D} : Fn_l_names_of Z (n + 1) [x0] = fin ((b_l_names_of Z (Fn_l_names_of Z n)).f [.d x0, .un, .un]) := by kernel_rfl
def N_l_fields_right : List Str := ["_law_tree_here", "_law_due", "_law_word", "_law_good"]
noncomputable def b_l_fields_right (Z : Zs) (FF : List D → M S) : SS (HY Z) :=
  (.seq (.setD 2 (.op oIx (.var 1) (.int 0)))
  (.seq (.ite (.of (.op oEq (.var 2) (.str "named")))
  (.ret (.op oEq (.fld "name" (fc_name Z) (fo_name Z) (.var 0)) (.op oIx (.var 1) (.int 1))))
  .skip)
  (.seq (.ite (.of (.op oEq (.var 2) (.str "flat")))
  (.ret (.andE (.op oEq (.fld "value" (fc_value Z) (fo_value Z) (.var 0)) (.op oIx (.var 1) (.int 1))) (.op oEq (.op oIsN (.fld "value" (fc_value Z) (fo_value Z) (.var 0)) .non) (.op oIsN (.op oIx (.var 1) (.int 1)) .non))))
  .skip)
  (.seq (.ite (.of (.op oEq (.var 2) (.str "joint")))
  (.seq (.setD 3 (.andE (.op oEq (.fld "title" (fc_title Z) (fo_title Z) (.var 0)) (.op oIx (.var 1) (.int 1))) (.call FF (.cons (.fld "one" (fc_one Z) (fo_one Z) (.var 0)) (.cons (.op oIx (.var 1) (.int 2)) .nil)))))
  (.ret (.andE (.var 3) (.call FF (.cons (.fld "other" (fc_other Z) (fo_other Z) (.var 0)) (.cons (.op oIx (.var 1) (.int 3)) .nil))))))
  .skip)
  (.seq (.ite (.or (.and (.of (.op oEq (.var 2) (.str "only"))) (.of (.op oNe (.fld "span" (fc_span Z) (fo_span Z) (.var 0)) (.op oIx (.var 1) (.int 2))))) (.and (.of (.op oEq (.var 2) (.str "shifted"))) (.of (.op oNe (.fld "by" (fc_by Z) (fo_by Z) (.var 0)) (.op oIx (.var 1) (.int 2))))))
  (.ret (.bl false))
  .skip)
  (.seq (.ite (.and (.of (.op oEq (.var 2) (.str "flipped"))) (.of (.op oNe (.fld "about" (fc_about Z) (fo_about Z) (.var 0)) (.op oIx (.var 1) (.int 2)))))
  (.ret (.bl false))
  .skip)
  (.ret (.call FF (.cons (.fld "tree" (fc_tree Z) (fo_tree Z) (.var 0)) (.cons (.op oIx (.var 1) (.int 1)) .nil))))))))))
noncomputable def Fn_l_fields_right (Z : Zs) : Nat → List D → M S
  | 0 => runF (b_l_fields_right Z fun _ => .no) 4 2
  | n + 1 => runF (b_l_fields_right Z (Fn_l_fields_right Z n)) 4 2
noncomputable def F_l_fields_right (Z : Zs) : List D → M S := Fn_l_fields_right Z 13
theorem F_l_fields_right_0 {Z : Zs} {x0 x1 : D} : Fn_l_fields_right Z 0 [x0, x1] = fin ((b_l_fields_right Z fun _ => .no).f [.d x0, .d x1, .un, .un]) := by kernel_rfl
theorem F_l_fields_right_s {Z : Zs} {n : Nat} {x0 x1 : D} : Fn_l_fields_right Z (n + 1) [x0, x1] = fin ((b_l_fields_right Z (Fn_l_fields_right Z n)).f [.d x0, .d x1, .un, .un]) := by kernel_rfl
def N_l_odd_name : List Str := ["_law_cell_here", "_law_some"]
noncomputable def b_l_odd_name (Z : Zs) : SS (HY Z) :=
  (.seq (.setD 1 (.lst (.cons (.str "") (.cons (.str "A") (.cons (.str "a1") (.cons (.str "abcdefghi") (.cons (.str "a b") (.cons .non (.cons (.int 5) (.cons (.lst (.cons (.str "a") .nil)) (.cons (.str "flat") (.cons (.str "only") (.cons (.str "shifted") (.cons (.str "flipped") (.cons (.str "over") (.cons (.str "where") .nil))))))))))))))))
  (.seq (.setD 1 (.op oAdd (.var 1) (.lst (.cons (.str "without") (.cons (.str "sum") (.cons (.str "less") (.cons (.str "least") (.cons (.str "greatest") (.cons (.str "same") (.cons (.str "a
") (.cons (.str "-") (.cons (.tup (.cons (.str "a") .nil)) (.cons (.bl true) .nil)))))))))))))
  (.ret (.op oIx (.var 1) (.op oMod (.var 0) (.int 24))))))
noncomputable def F_l_odd_name (Z : Zs) : List D → M S := runF (b_l_odd_name Z) 2 1
theorem F_l_odd_name_eq {Z : Zs} {x0 : D} : F_l_odd_name Z [x0] = fin ((b_l_odd_name Z).f [.d x0, .un]) := by kernel_rfl
def N_l_is_name : List Str := ["_law_thing", "_law_sign"]
noncomputable def b_l_is_name (Z : Zs) : SS (HY Z) :=
  (.seq (.ite (.or (.not (.tru (.cb (bIsi (TB Z) (TB_ok Z)) (.cons (.var 0) (.cons (.ty "str") .nil))))) (.or (.not (.of (.chain oLe oLe (.int 1) (.cb bLen (.cons (.var 0) .nil)) (.int 8)))) (.of (.op oIn (.var 0) (.call (F_l_titles Z) .nil)))))
  (.ret (.bl false))
  .skip)
  (.seq (.ite (.of (.op oIn (.var 0) (.lst (.cons (.str "flat") (.cons (.str "only") (.cons (.str "shifted") (.cons (.str "flipped") .nil)))))))
  (.ret (.bl false))
  .skip)
  (.ret (.op oEq (.lc (.str (.var 0)) (.name 1) (.of (.op oNotIn (.var 1) (.str "abcdefghijklmnopqrstuvwxyz"))) (.var 1) [1]) (.lst .nil)))))
noncomputable def F_l_is_name (Z : Zs) : List D → M S := runF (b_l_is_name Z) 2 1
theorem F_l_is_name_eq {Z : Zs} {x0 : D} : F_l_is_name Z [x0] = fin ((b_l_is_name Z).f [.d x0, .un]) := by kernel_rfl
def N_l_wrong : List Str := ["_law_cell_here", "_law_good", "_law_odd", "_law_span", "_law_place", "_law_title"]
noncomputable def b_l_wrong (Z : Zs) : SS (HY Z) :=
  (.seq (.setD 1 (.makeX Z.Flat (F_Flat_init Z) (.cons (.int 5) .nil)))
  (.seq (.setD 2 (.op oIx (.lst (.cons .non (.cons (.str "a") (.cons (.int 5) (.cons (.tup (.cons (.str "flat") (.cons (.int 5) .nil))) (.cons (.lst (.cons (.str "a") .nil)) (.cons .dnew (.cons (.bl true) .nil)))))))) (.op oMod (.op oDiv (.var 0) (.int 9)) (.int 7))))
  (.seq (.setD 3 (.op oIx (.lst (.cons (.tup (.cons (.int 3) (.cons (.int 2) .nil))) (.cons (.tup (.cons (.int 1) .nil)) (.cons (.lst (.cons (.int 1) (.cons (.int 2) .nil))) (.cons .non (.cons (.str "..") (.cons (.tup (.cons (.bl true) (.cons (.int 5) .nil))) (.cons (.int 7) .nil)))))))) (.op oMod (.op oDiv (.var 0) (.int 9)) (.int 7))))
  (.seq (.setD 4 (.op oIx (.lst (.cons .non (.cons (.bl true) (.cons (.str "5") (.cons (.tup (.cons (.int 5) .nil)) (.cons (.lst (.cons (.int 5) .nil)) .nil)))))) (.op oMod (.op oDiv (.var 0) (.int 9)) (.int 5))))
  (.seq (.setD 5 (.op oIx (.lst (.cons (.str "turned") (.cons (.str "Over") (.cons (.str "") (.cons .non (.cons (.int 5) (.cons (.str "named") (.cons (.str "flat") (.cons (.lst (.cons (.str "over") .nil)) .nil))))))))) (.op oMod (.op oDiv (.var 0) (.int 9)) (.int 8))))
  (.ite (.of (.op oEq (.op oMod (.var 0) (.int 9)) (.int 0)))
  (.drop (.makeX Z.Named (F_Named_init Z) (.cons (.call (F_l_odd_name Z) (.cons (.op oDiv (.var 0) (.int 9)) .nil)) .nil)))
  (.ite (.of (.op oEq (.op oMod (.var 0) (.int 9)) (.int 1)))
  (.drop (.makeX Z.Flat (F_Flat_init Z) (.cons (.op oIx (.lst (.cons (.bl true) (.cons (.str "5") (.cons (.tup (.cons (.int 5) .nil)) (.cons (.lst (.cons .non .nil)) (.cons (.bl false) .nil)))))) (.op oMod (.op oDiv (.var 0) (.int 9)) (.int 5))) .nil)))
  (.ite (.of (.op oEq (.op oMod (.var 0) (.int 9)) (.int 2)))
  (.drop (.makeX Z.Only (F_Only_init Z) (.cons (.var 2) (.cons (.tup (.cons (.int 1) (.cons (.int 2) .nil))) .nil))))
  (.ite (.of (.op oEq (.op oMod (.var 0) (.int 9)) (.int 3)))
  (.drop (.makeX Z.Only (F_Only_init Z) (.cons (.var 1) (.cons (.var 3) .nil))))
  (.ite (.of (.op oEq (.op oMod (.var 0) (.int 9)) (.int 4)))
  (.drop (.makeX Z.Shifted (F_Shifted_init Z) (.cons (.op oIx (.lst (.cons (.var 2) (.cons (.var 1) .nil))) (.op oMod (.op oDiv (.var 0) (.int 100)) (.int 2))) (.cons (.var 4) .nil))))
  (.ite (.of (.op oEq (.op oMod (.var 0) (.int 9)) (.int 5)))
  (.drop (.makeX Z.Flipped (F_Flipped_init Z) (.cons (.op oIx (.lst (.cons (.var 2) (.cons (.var 1) .nil))) (.op oMod (.op oDiv (.var 0) (.int 100)) (.int 2))) (.cons (.var 4) .nil))))
  (.ite (.of (.op oEq (.op oMod (.var 0) (.int 9)) (.int 6)))
  (.drop (.makeX Z.Joint (F_Joint_init Z) (.cons (.var 5) (.cons (.var 1) (.cons (.var 1) .nil)))))
  (.ite (.of (.op oEq (.op oMod (.var 0) (.int 9)) (.int 7)))
  (.drop (.makeX Z.Joint (F_Joint_init Z) (.cons (.str "over") (.cons (.var 2) (.cons (.var 1) .nil)))))
  (.drop (.makeX Z.Joint (F_Joint_init Z) (.cons (.str "over") (.cons (.var 1) (.cons (.var 2) .nil))))))))))))))))))
noncomputable def F_l_wrong (Z : Zs) : List D → M S := runF (b_l_wrong Z) 6 1
theorem F_l_wrong_eq {Z : Zs} {x0 : D} : F_l_wrong Z [x0] = fin ((b_l_wrong Z).f [.d x0, .un, .un, .un, .un, .un]) := by kernel_rfl
def N_l_deep_tree : List Str := ["_law_script", "_law_base", "_law_tree_here", "_law_k", "_law_cell_here", "_law_other", "_law_by", "_law_some", "_law_title"]
noncomputable def b_l_deep_tree_l1 (Z : Zs) : SS (HY Z) :=
  (.seq (.setD 4 (.call (F_l_cell Z) (.cons (.var 0) (.cons (.op oAdd (.op oAdd (.var 1) (.int 3)) (.var 3)) .nil))))
  (.seq (.setD 5 (.call (F_l_tree Z) (.cons (.var 0) (.cons (.op oAdd (.op oAdd (.var 1) (.int 20)) (.op oMul (.int 4) (.var 3))) (.cons (.int 1) (.cons (.cb bMin2 (.cons (.var 3) (.cons (.int 1) .nil))) .nil))))))
  (.seq (.setD 6 (.op oSub (.op oMod (.op oDiv (.var 4) (.int 10)) (.int 15)) (.int 7)))
  (.seq (.setD 7 (.lst (.cons (.tup (.cons (.str "only") (.cons (.var 2) (.cons (.call (F_l_near_span Z) (.cons (.op oDiv (.var 4) (.int 10)) .nil)) .nil)))) (.cons (.tup (.cons (.str "shifted") (.cons (.var 2) (.cons (.var 6) .nil)))) (.cons (.tup (.cons (.str "flipped") (.cons (.var 2) (.cons (.var 6) .nil)))) .nil)))))
  (.seq (.setD 8 (.op oIx (.call (F_l_titles Z) .nil) (.op oMod (.op oDiv (.var 4) (.int 10)) (.int 8))))
  (.setD 2 (.op oIx (.op oAdd (.var 7) (.lst (.cons (.tup (.cons (.str "joint") (.cons (.var 8) (.cons (.var 2) (.cons (.var 5) .nil))))) (.cons (.tup (.cons (.str "joint") (.cons (.var 8) (.cons (.var 5) (.cons (.var 2) .nil))))) .nil)))) (.op oMod (.var 4) (.int 5)))))))))
noncomputable def b_l_deep_tree (Z : Zs) : SS (HY Z) :=
  (.seq (.setD 2 (.call (F_l_tree Z) (.cons (.var 0) (.cons (.var 1) (.cons (.int 1) (.cons (.int 0) .nil))))))
  (.seq (.forS (.rng1 (.cons (.op oAdd (.int 5) (.op oMod (.call (F_l_cell Z) (.cons (.var 0) (.cons (.op oAdd (.var 1) (.int 2)) .nil))) (.int 7))) .nil)) (.name 3) [3, 4, 5, 6, 7, 8] (b_l_deep_tree_l1 Z))
  (.ret (.var 2))))
noncomputable def F_l_deep_tree (Z : Zs) : List D → M S := runF (b_l_deep_tree Z) 9 2
theorem F_l_deep_tree_eq {Z : Zs} {x0 x1 : D} : F_l_deep_tree Z [x0, x1] = fin ((b_l_deep_tree Z).f [.d x0, .d x1, .un, .un, .un, .un, .un, .un, .un]) := by kernel_rfl
def N_l_twice_right : List Str := ["_law_tree_here", "_law_due", "_law_both", "_law_told_both", "_law_many"]
noncomputable def b_l_twice_right (Z : Zs) : SS (HY Z) :=
  (.seq (.setD 2 (.make Z.Joint (F_Joint_init Z) (.cons (.str "less") (.cons (.var 0) (.cons (.make Z.Only (F_Only_init Z) (.cons (.make Z.Shifted (F_Shifted_init Z) (.cons (.var 0) (.cons (.int 40) .nil))) (.cons (.tup (.cons .non (.cons (.int 3) .nil))) .nil))) .nil)))))
  (.seq (.setD 3 (.tup (.cons (.str "joint") (.cons (.str "less") (.cons (.var 1) (.cons (.tup (.cons (.str "only") (.cons (.tup (.cons (.str "shifted") (.cons (.var 1) (.cons (.int 40) .nil)))) (.cons (.tup (.cons .non (.cons (.int 3) .nil))) .nil)))) .nil))))))
  (.seq (.setD 4 (.cb bLen (.cons (.call (F_l_kinds Z) (.cons (.var 1) .nil)) .nil)))
  (.seq (.appT (.call (F_names_in Z) (.cons (.var 2) .nil)) (.str "zz"))
  (.seq (.ite (.or (.of (.op oNe (.either (.meth Z.Named "told" (F_Named_told Z) (.var 2) .nil) (.either (.meth Z.Flat "told" (F_Flat_told Z) (.var 2) .nil) (.either (.meth Z.Only "told" (F_Only_told Z) (.var 2) .nil) (.either (.meth Z.Shifted "told" (F_Shifted_told Z) (.var 2) .nil) (.either (.meth Z.Flipped "told" (F_Flipped_told Z) (.var 2) .nil) (.meth Z.Joint "told" (F_Joint_told Z) (.var 2) .nil)))))) (.var 3))) (.not (.tru (.call (F_l_fields_right Z) (.cons (.var 2) (.cons (.var 3) .nil))))))
  (.ret (.bl false))
  .skip)
  (.ret (.andE (.op oEq (.call (F_parts_in Z) (.cons (.var 2) .nil)) (.op oAdd (.op oMul (.int 2) (.var 4)) (.int 3))) (.op oEq (.call (F_names_in Z) (.cons (.var 2) .nil)) (.sortTx (.call (F_l_names_of Z) (.cons (.var 1) .nil)))))))))))
noncomputable def F_l_twice_right (Z : Zs) : List D → M S := runF (b_l_twice_right Z) 5 2
theorem F_l_twice_right_eq {Z : Zs} {x0 x1 : D} : F_l_twice_right Z [x0, x1] = fin ((b_l_twice_right Z).f [.d x0, .d x1, .un, .un, .un]) := by kernel_rfl
def N_law : List Str := ["_law_script", "_law_k", "_law_cell_here", "_law_due", "_law_tree_here", "_law_error", "_law_thing", "_law_found", "e"]
noncomputable def b_law_l1 (Z : Zs) : SS (HY Z) :=
  (.seq (.setD 2 (.call (F_l_cell Z) (.cons (.var 0) (.cons (.op oAdd (.int 5000) (.var 1)) .nil))))
  (.seq (.setD 3 (.call (F_l_tree Z) (.cons (.var 0) (.cons (.op oMul (.int 100) (.var 1)) (.cons (.int 1) (.cons (.op oMod (.var 2) (.int 5)) .nil))))))
  (.seq (.ite (.of (.op oEq (.op oMod (.op oDiv (.var 2) (.int 5)) (.int 8)) (.int 3)))
  (.setD 3 (.call (F_l_deep_tree Z) (.cons (.var 0) (.cons (.op oAdd (.int 700000) (.op oMul (.int 100) (.var 1))) .nil))))
  .skip)
  (.seq (.setD 4 (.call (F_l_made Z) (.cons (.var 3) .nil)))
  (.seq (.ite (.or (.not (.tru (.cb (bIsi (TB Z) (TB_ok Z)) (.cons (.var 4) (.cons (.cls Z.Tree) .nil))))) (.or (.of (.op oNe (.either (.meth Z.Named "told" (F_Named_told Z) (.var 4) .nil) (.either (.meth Z.Flat "told" (F_Flat_told Z) (.var 4) .nil) (.either (.meth Z.Only "told" (F_Only_told Z) (.var 4) .nil) (.either (.meth Z.Shifted "told" (F_Shifted_told Z) (.var 4) .nil) (.either (.meth Z.Flipped "told" (F_Flipped_told Z) (.var 4) .nil) (.meth Z.Joint "told" (F_Joint_told Z) (.var 4) .nil)))))) (.var 3))) (.not (.tru (.cb (bIsi (TB Z) (TB_ok Z)) (.cons (.either (.meth Z.Named "told" (F_Named_told Z) (.var 4) .nil) (.either (.meth Z.Flat "told" (F_Flat_told Z) (.var 4) .nil) (.either (.meth Z.Only "told" (F_Only_told Z) (.var 4) .nil) (.either (.meth Z.Shifted "told" (F_Shifted_told Z) (.var 4) .nil) (.either (.meth Z.Flipped "told" (F_Flipped_told Z) (.var 4) .nil) (.meth Z.Joint "told" (F_Joint_told Z) (.var 4) .nil)))))) (.cons (.ty "tuple") .nil)))))))
  (.ret (.bl false))
  .skip)
  (.seq (.ite (.not (.tru (.call (F_l_fields_right Z) (.cons (.var 4) (.cons (.var 3) .nil)))))
  (.ret (.bl false))
  .skip)
  (.seq (.ite (.or (.of (.op oNe (.call (F_parts_in Z) (.cons (.var 4) .nil)) (.cb bLen (.cons (.call (F_l_kinds Z) (.cons (.var 3) .nil)) .nil)))) (.of (.op oNe (.call (F_names_in Z) (.cons (.var 4) .nil)) (.sortTx (.call (F_l_names_of Z) (.cons (.var 3) .nil))))))
  (.ret (.bl false))
  .skip)
  (.ite (.and (.of (.op oNe (.op oMod (.op oDiv (.var 2) (.int 5)) (.int 8)) (.int 3))) (.and (.of (.op oLt (.cb bLen (.cons (.call (F_l_kinds Z) (.cons (.var 3) .nil)) .nil)) (.int 28))) (.not (.tru (.call (F_l_twice_right Z) (.cons (.var 4) (.cons (.var 3) .nil)))))))
  (.ret (.bl false))
  .skip))))))))
noncomputable def b_law_l2 (Z : Zs) : SS (HY Z) :=
  (.seq (.setD 2 (.call (F_l_cell Z) (.cons (.var 0) (.cons (.op oAdd (.int 6000) (.var 1)) .nil))))
  (.seq (.setD 5 .non)
  (.seq (.tryK (.ref Z.FarError) (ec_FarError Z) (eo_FarError Z) 8 5
  (.drop (.callX (F_l_wrong Z) (.cons (.var 2) .nil))))
  (.seq (.ite (.or (.of (.op oIsN (.var 5) .non)) (.of (.op oNe (.call (F_l_word_of Z) (.cons (.var 5) .nil)) (.str "NoTree"))))
  (.ret (.bl false))
  .skip)
  (.seq (.setD 6 (.op oIx (.op oAdd (.call (F_l_names Z) .nil) (.lst (.cons (.str "zebra") (.cons (.str "overs") (.cons (.str "z") (.cons (.str "abcdefgh") (.cons (.call (F_l_odd_name Z) (.cons (.op oDiv (.var 2) (.int 11)) .nil)) .nil))))))) (.op oMod (.op oDiv (.var 2) (.int 7)) (.int 11))))
  (.seq (.setD 7 (.call (F_is_name Z) (.cons (.var 6) .nil)))
  (.ite (.or (.not (.tru (.cb (bIsi (TB Z) (TB_ok Z)) (.cons (.var 7) (.cons (.ty "bool") .nil))))) (.of (.op oNe (.var 7) (.call (F_l_is_name Z) (.cons (.var 6) .nil)))))
  (.ret (.bl false))
  .skip)))))))
noncomputable def b_law (Z : Zs) : SS (HY Z) :=
  (.seq (.forS (.rng1 (.cons (.op oAdd (.cb bMin2 (.cons (.int 63) (.cons (.cb bLen (.cons (.var 0) .nil)) .nil))) (.int 4)) .nil)) (.name 1) [1, 2, 3, 4] (b_law_l1 Z))
  (.seq (.forS (.rng1 (.cons (.int 30) .nil)) (.name 1) [1, 2, 5, 6, 7, 8] (b_law_l2 Z))
  (.ret (.bl true))))
noncomputable def F_law (Z : Zs) : List D → M S := runF (b_law Z) 9 1
theorem F_law_eq {Z : Zs} {x0 : D} : F_law Z [x0] = fin ((b_law Z).f [.d x0, .un, .un, .un, .un, .un, .un, .un, .un]) := by kernel_rfl
end Far
namespace Far
open PySem L2
noncomputable def t_Rule_rule_word (K : PySem.W.Frag) (Z : Zs) : TS :=
  (tRet (tC (.str "")))
theorem rd_Rule_rule_word (K : PySem.W.Frag) (Z : Zs) (W : WX) : (b_Rule_rule_word Z).t K W = t_Rule_rule_word K Z := by kernel_rfl
noncomputable def t_Over_rule_word (K : PySem.W.Frag) (Z : Zs) : TS :=
  (tRet (tC (.str "over")))
theorem rd_Over_rule_word (K : PySem.W.Frag) (Z : Zs) (W : WX) : (b_Over_rule_word Z).t K W = t_Over_rule_word K Z := by kernel_rfl
noncomputable def t_Where_rule_word (K : PySem.W.Frag) (Z : Zs) : TS :=
  (tRet (tC (.str "where")))
theorem rd_Where_rule_word (K : PySem.W.Frag) (Z : Zs) (W : WX) : (b_Where_rule_word Z).t K W = t_Where_rule_word K Z := by kernel_rfl
noncomputable def t_Without_rule_word (K : PySem.W.Frag) (Z : Zs) : TS :=
  (tRet (tC (.str "without")))
theorem rd_Without_rule_word (K : PySem.W.Frag) (Z : Zs) (W : WX) : (b_Without_rule_word Z).t K W = t_Without_rule_word K Z := by kernel_rfl
noncomputable def t_Sum_rule_word (K : PySem.W.Frag) (Z : Zs) : TS :=
  (tRet (tC (.str "sum")))
theorem rd_Sum_rule_word (K : PySem.W.Frag) (Z : Zs) (W : WX) : (b_Sum_rule_word Z).t K W = t_Sum_rule_word K Z := by kernel_rfl
noncomputable def t_Less_rule_word (K : PySem.W.Frag) (Z : Zs) : TS :=
  (tRet (tC (.str "less")))
theorem rd_Less_rule_word (K : PySem.W.Frag) (Z : Zs) (W : WX) : (b_Less_rule_word Z).t K W = t_Less_rule_word K Z := by kernel_rfl
noncomputable def t_Least_rule_word (K : PySem.W.Frag) (Z : Zs) : TS :=
  (tRet (tC (.str "least")))
theorem rd_Least_rule_word (K : PySem.W.Frag) (Z : Zs) (W : WX) : (b_Least_rule_word Z).t K W = t_Least_rule_word K Z := by kernel_rfl
noncomputable def t_Greatest_rule_word (K : PySem.W.Frag) (Z : Zs) : TS :=
  (tRet (tC (.str "greatest")))
theorem rd_Greatest_rule_word (K : PySem.W.Frag) (Z : Zs) (W : WX) : (b_Greatest_rule_word Z).t K W = t_Greatest_rule_word K Z := by kernel_rfl
noncomputable def t_Same_rule_word (K : PySem.W.Frag) (Z : Zs) : TS :=
  (tRet (tC (.str "same")))
theorem rd_Same_rule_word (K : PySem.W.Frag) (Z : Zs) (W : WX) : (b_Same_rule_word Z).t K W = t_Same_rule_word K Z := by kernel_rfl
noncomputable def t_all_rules (K : PySem.W.Frag) (Z : Zs) : TS :=
  (tRet (tLst (tCons (tNew0 Z.Over) (tCons (tNew0 Z.Where) (tCons (tNew0 Z.Without) (tCons (tNew0 Z.Sum) (tCons (tNew0 Z.Less) (tCons (tNew0 Z.Least) (tCons (tNew0 Z.Greatest) (tCons (tNew0 Z.Same) tNil))))))))))
theorem rd_all_rules (K : PySem.W.Frag) (Z : Zs) (W : WX) : (b_all_rules Z).t K W = t_all_rules K Z := by kernel_rfl
noncomputable def t_is_kept (K : PySem.W.Frag) (Z : Zs) : TS :=
  (tRet (tOrT K (tOp (rInU K) (tVar 0) (tC (.ref Z.tk_OWN_WORDS))) (tOp (rInU K) (tVar 0) (tLc (iSeq K (tCall (spD K (RF (F_all_rules Z))) [] E0 tNil)) (gName 1) tYes (tEither (tMethS Z.Rule "rule_word" (spD K (RF (F_Rule_rule_word Z))) (fun _ => E0) (tVar 1) tNil) (tEither (tMethS Z.Over "rule_word" (spD K (RF (F_Over_rule_word Z))) (fun _ => E0) (tVar 1) tNil) (tEither (tMethS Z.Where "rule_word" (spD K (RF (F_Where_rule_word Z))) (fun _ => E0) (tVar 1) tNil) (tEither (tMethS Z.Without "rule_word" (spD K (RF (F_Without_rule_word Z))) (fun _ => E0) (tVar 1) tNil) (tEither (tMethS Z.Sum "rule_word" (spD K (RF (F_Sum_rule_word Z))) (fun _ => E0) (tVar 1) tNil) (tEither (tMethS Z.Less "rule_word" (spD K (RF (F_Less_rule_word Z))) (fun _ => E0) (tVar 1) tNil) (tEither (tMethS Z.Least "rule_word" (spD K (RF (F_Least_rule_word Z))) (fun _ => E0) (tVar 1) tNil) (tEither (tMethS Z.Greatest "rule_word" (spD K (RF (F_Greatest_rule_word Z))) (fun _ => E0) (tVar 1) tNil) (tMethS Z.Same "rule_word" (spD K (RF (F_Same_rule_word Z))) (fun _ => E0) (tVar 1) tNil))))))))) [1]))))
theorem rd_is_kept (K : PySem.W.Frag) (Z : Zs) (W : WX) : (b_is_kept Z).t K W = t_is_kept K Z := by kernel_rfl
noncomputable def t_is_name (K : PySem.W.Frag) (Z : Zs) : TS :=
  (tSeq (tIfS (tOr (tNot (tTru K (tCB (rIsU K) (tCons (tVar 0) (tCons (tC (.ty "str")) tNil))))) (tNot (tTest (tChain (rI0 fun i j => .bl (decide (i ≤ j))) (rI0 fun i j => .bl (decide (i ≤ j))) (tC (.int 1)) (tCB (rLenU K) (tCons (tVar 0) tNil)) (tC (.int 8))))))
  (tRet (tC (.bl false)))
  tNext)
  (tRet (tAndT K (tCB (rAll K) (tCons (tLc (iStr (tVar 0)) (gName 1) tYes (tOp (rInU K) (tVar 1) (tC (.str "abcdefghijklmnopqrstuvwxyz"))) [1]) tNil)) (tNotT K (tCall (spD K (RF (F_is_kept Z))) [] E0 (tCons (tVar 0) tNil))))))
theorem rd_is_name (K : PySem.W.Frag) (Z : Zs) (W : WX) : (b_is_name Z).t K W = t_is_name K Z := by kernel_rfl
noncomputable def t_need_fit (K : PySem.W.Frag) (Z : Zs) (W : WX) : TS :=
  (tIfS (tNot (tTru K (tVar 0)))
  (tRaise Z.NoTree W)
  tNext)
theorem rd_need_fit (K : PySem.W.Frag) (Z : Zs) (W : WX) : (b_need_fit Z).t K W = t_need_fit K Z W := by kernel_rfl
noncomputable def t_Named_init (K : PySem.W.Frag) (Z : Zs) (W : WX) : TS :=
  (tSeq (tDrop (tCallS (spD K (RF (F_need_fit Z))) (WE W) (tCons (tCall (spD K (RF (F_is_name Z))) [] E0 (tCons (tVar 1) tNil)) tNil)))
  (sFld K (tVar 0) (tVar 1) "name"))
theorem rd_Named_init (K : PySem.W.Frag) (Z : Zs) (W : WX) : (b_Named_init Z).t K W = t_Named_init K Z W := by kernel_rfl
noncomputable def t_is_place (K : PySem.W.Frag) (Z : Zs) : TS :=
  (tRet (tAndT K (tCB (rIsU K) (tCons (tVar 0) (tCons (tC (.ty "int")) tNil))) (tNotT K (tCB (rIsU K) (tCons (tVar 0) (tCons (tC (.ty "bool")) tNil))))))
theorem rd_is_place (K : PySem.W.Frag) (Z : Zs) (W : WX) : (b_is_place Z).t K W = t_is_place K Z := by kernel_rfl
noncomputable def t_is_value (K : PySem.W.Frag) (Z : Zs) : TS :=
  (tRet (tOrT K (tOp (rIsN) (tVar 0) (tC .non)) (tCall (spD K (RF (F_is_place Z))) [] E0 (tCons (tVar 0) tNil))))
theorem rd_is_value (K : PySem.W.Frag) (Z : Zs) (W : WX) : (b_is_value Z).t K W = t_is_value K Z := by kernel_rfl
noncomputable def t_Flat_init (K : PySem.W.Frag) (Z : Zs) (W : WX) : TS :=
  (tSeq (tDrop (tCallS (spD K (RF (F_need_fit Z))) (WE W) (tCons (tCall (spD K (RF (F_is_value Z))) [] E0 (tCons (tVar 1) tNil)) tNil)))
  (sFld K (tVar 0) (tVar 1) "value"))
theorem rd_Flat_init (K : PySem.W.Frag) (Z : Zs) (W : WX) : (b_Flat_init Z).t K W = t_Flat_init K Z W := by kernel_rfl
noncomputable def t_is_span (K : PySem.W.Frag) (Z : Zs) : TS :=
  (tSeq (tIfS (tOr (tNot (tTru K (tCB (rIsU K) (tCons (tVar 0) (tCons (tC (.ty "tuple")) tNil))))) (tTest (tOp (rNeU K) (tCB (rLenU K) (tCons (tVar 0) tNil)) (tC (.int 2)))))
  (tRet (tC (.bl false)))
  tNext)
  (tSeq (tIfS (tNot (tTru K (tCB (rAll K) (tCons (tLc (iSeq K (tVar 0)) (gName 1) tYes (tOrT K (tOp (rIsN) (tVar 1) (tC .non)) (tCall (spD K (RF (F_is_place Z))) [] E0 (tCons (tVar 1) tNil))) [1]) tNil))))
  (tRet (tC (.bl false)))
  tNext)
  (tRet (tOrT K (tOp (rIsN) (tOp (rIx K) (tVar 0) (tC (.int 0))) (tC .non)) (tOrT K (tOp (rIsN) (tOp (rIx K) (tVar 0) (tC (.int 1))) (tC .non)) (tOp (rI0 fun i j => .bl (decide (i ≤ j))) (tOp (rIx K) (tVar 0) (tC (.int 0))) (tOp (rIx K) (tVar 0) (tC (.int 1)))))))))
theorem rd_is_span (K : PySem.W.Frag) (Z : Zs) (W : WX) : (b_is_span Z).t K W = t_is_span K Z := by kernel_rfl
noncomputable def t_Only_init (K : PySem.W.Frag) (Z : Zs) (W : WX) : TS :=
  (tSeq (tDrop (tCallS (spD K (RF (F_need_fit Z))) (WE W) (tCons (tAndT K (tCB (rIsU K) (tCons (tVar 1) (tCons (tC (.ref Z.Tree)) tNil))) (tCall (spD K (RF (F_is_span Z))) [] E0 (tCons (tVar 2) tNil))) tNil)))
  (tSeq (sFld K (tVar 0) (tVar 1) "tree")
  (sFld K (tVar 0) (tVar 2) "span")))
theorem rd_Only_init (K : PySem.W.Frag) (Z : Zs) (W : WX) : (b_Only_init Z).t K W = t_Only_init K Z W := by kernel_rfl
noncomputable def t_Shifted_init (K : PySem.W.Frag) (Z : Zs) (W : WX) : TS :=
  (tSeq (tDrop (tCallS (spD K (RF (F_need_fit Z))) (WE W) (tCons (tAndT K (tCB (rIsU K) (tCons (tVar 1) (tCons (tC (.ref Z.Tree)) tNil))) (tCall (spD K (RF (F_is_place Z))) [] E0 (tCons (tVar 2) tNil))) tNil)))
  (tSeq (sFld K (tVar 0) (tVar 1) "tree")
  (sFld K (tVar 0) (tVar 2) "by")))
theorem rd_Shifted_init (K : PySem.W.Frag) (Z : Zs) (W : WX) : (b_Shifted_init Z).t K W = t_Shifted_init K Z W := by kernel_rfl
noncomputable def t_Flipped_init (K : PySem.W.Frag) (Z : Zs) (W : WX) : TS :=
  (tSeq (tDrop (tCallS (spD K (RF (F_need_fit Z))) (WE W) (tCons (tAndT K (tCB (rIsU K) (tCons (tVar 1) (tCons (tC (.ref Z.Tree)) tNil))) (tCall (spD K (RF (F_is_place Z))) [] E0 (tCons (tVar 2) tNil))) tNil)))
  (tSeq (sFld K (tVar 0) (tVar 1) "tree")
  (sFld K (tVar 0) (tVar 2) "about")))
theorem rd_Flipped_init (K : PySem.W.Frag) (Z : Zs) (W : WX) : (b_Flipped_init Z).t K W = t_Flipped_init K Z W := by kernel_rfl
noncomputable def t_rule_by (K : PySem.W.Frag) (Z : Zs) : TS :=
  (tSeq (tFor (iSeq K (tCall (spD K (RF (F_all_rules Z))) [] E0 tNil)) (gName 1)
  (tIfS (tTest (tOp (rEqU K) (tEither (tMethS Z.Rule "rule_word" (spD K (RF (F_Rule_rule_word Z))) (fun _ => E0) (tVar 1) tNil) (tEither (tMethS Z.Over "rule_word" (spD K (RF (F_Over_rule_word Z))) (fun _ => E0) (tVar 1) tNil) (tEither (tMethS Z.Where "rule_word" (spD K (RF (F_Where_rule_word Z))) (fun _ => E0) (tVar 1) tNil) (tEither (tMethS Z.Without "rule_word" (spD K (RF (F_Without_rule_word Z))) (fun _ => E0) (tVar 1) tNil) (tEither (tMethS Z.Sum "rule_word" (spD K (RF (F_Sum_rule_word Z))) (fun _ => E0) (tVar 1) tNil) (tEither (tMethS Z.Less "rule_word" (spD K (RF (F_Less_rule_word Z))) (fun _ => E0) (tVar 1) tNil) (tEither (tMethS Z.Least "rule_word" (spD K (RF (F_Least_rule_word Z))) (fun _ => E0) (tVar 1) tNil) (tEither (tMethS Z.Greatest "rule_word" (spD K (RF (F_Greatest_rule_word Z))) (fun _ => E0) (tVar 1) tNil) (tMethS Z.Same "rule_word" (spD K (RF (F_Same_rule_word Z))) (fun _ => E0) (tVar 1) tNil))))))))) (tVar 0)))
  (tRet (tVar 1))
  tNext))
  (tRet (tC .non)))
theorem rd_rule_by (K : PySem.W.Frag) (Z : Zs) (W : WX) : (b_rule_by Z).t K W = t_rule_by K Z := by kernel_rfl
noncomputable def t_Joint_init (K : PySem.W.Frag) (Z : Zs) (W : WX) : TS :=
  (tSeq (tDrop (tCallS (spD K (RF (F_need_fit Z))) (WE W) (tCons (tAndT K (tCB (rIsU K) (tCons (tVar 1) (tCons (tC (.ty "str")) tNil))) (tOp (rNotN) (tCall (spD K (RF (F_rule_by Z))) [] E0 (tCons (tVar 1) tNil)) (tC .non))) tNil)))
  (tSeq (tDrop (tCallS (spD K (RF (F_need_fit Z))) (WE W) (tCons (tAndT K (tCB (rIsU K) (tCons (tVar 2) (tCons (tC (.ref Z.Tree)) tNil))) (tCB (rIsU K) (tCons (tVar 3) (tCons (tC (.ref Z.Tree)) tNil)))) tNil)))
  (tSeq (sFld K (tVar 0) (tVar 1) "title")
  (tSeq (sFld K (tVar 0) (tVar 2) "one")
  (sFld K (tVar 0) (tVar 3) "other")))))
theorem rd_Joint_init (K : PySem.W.Frag) (Z : Zs) (W : WX) : (b_Joint_init Z).t K W = t_Joint_init K Z W := by kernel_rfl
noncomputable def t_Tree_limbs (K : PySem.W.Frag) (Z : Zs) : TS :=
  (tRet (tTupP tNil))
theorem rd_Tree_limbs (K : PySem.W.Frag) (Z : Zs) (W : WX) : (b_Tree_limbs Z).t K W = t_Tree_limbs K Z := by kernel_rfl
noncomputable def t_Tree_own_names (K : PySem.W.Frag) (Z : Zs) : TS :=
  (tRet (tLst tNil))
theorem rd_Tree_own_names (K : PySem.W.Frag) (Z : Zs) (W : WX) : (b_Tree_own_names Z).t K W = t_Tree_own_names K Z := by kernel_rfl
noncomputable def t_Named_own_names (K : PySem.W.Frag) (Z : Zs) : TS :=
  (tRet (tLst (tCons (tFld K (tVar 0) "name") tNil)))
theorem rd_Named_own_names (K : PySem.W.Frag) (Z : Zs) (W : WX) : (b_Named_own_names Z).t K W = t_Named_own_names K Z := by kernel_rfl
noncomputable def t_Named_told (K : PySem.W.Frag) (Z : Zs) : TS :=
  (tRet (tTupP (tCons (tC (.str "named")) (tCons (tFld K (tVar 0) "name") tNil))))
theorem rd_Named_told (K : PySem.W.Frag) (Z : Zs) (W : WX) : (b_Named_told Z).t K W = t_Named_told K Z := by kernel_rfl
noncomputable def t_Flat_told (K : PySem.W.Frag) (Z : Zs) : TS :=
  (tRet (tTupP (tCons (tC (.str "flat")) (tCons (tFld K (tVar 0) "value") tNil))))
theorem rd_Flat_told (K : PySem.W.Frag) (Z : Zs) (W : WX) : (b_Flat_told Z).t K W = t_Flat_told K Z := by kernel_rfl
noncomputable def t_Only_limbs (K : PySem.W.Frag) (Z : Zs) : TS :=
  (tRet (tTupP (tCons (tFld K (tVar 0) "tree") tNil)))
theorem rd_Only_limbs (K : PySem.W.Frag) (Z : Zs) (W : WX) : (b_Only_limbs Z).t K W = t_Only_limbs K Z := by kernel_rfl
noncomputable def t_Joint_told (K : PySem.W.Frag) (Z : Zs) (FF : Nat → List D → M S) : TS :=
  (tRet (tTupP (tCons (tC (.str "joint")) (tCons (tFld K (tVar 0) "title") (tCons (tEither (tMethS Z.Named "told" (spD K (RF (F_Named_told Z))) (fun _ => E0) (tFld K (tVar 0) "one") tNil) (tEither (tMethS Z.Flat "told" (spD K (RF (F_Flat_told Z))) (fun _ => E0) (tFld K (tVar 0) "one") tNil) (tEither (tMethS Z.Only "told" (spD K (RF (FF 0))) (fun _ => E0) (tFld K (tVar 0) "one") tNil) (tEither (tMethS Z.Shifted "told" (spD K (RF (FF 1))) (fun _ => E0) (tFld K (tVar 0) "one") tNil) (tEither (tMethS Z.Flipped "told" (spD K (RF (FF 2))) (fun _ => E0) (tFld K (tVar 0) "one") tNil) (tMethS Z.Joint "told" (spD K (RF (FF 3))) (fun _ => E0) (tFld K (tVar 0) "one") tNil)))))) (tCons (tEither (tMethS Z.Named "told" (spD K (RF (F_Named_told Z))) (fun _ => E0) (tFld K (tVar 0) "other") tNil) (tEither (tMethS Z.Flat "told" (spD K (RF (F_Flat_told Z))) (fun _ => E0) (tFld K (tVar 0) "other") tNil) (tEither (tMethS Z.Only "told" (spD K (RF (FF 0))) (fun _ => E0) (tFld K (tVar 0) "other") tNil) (tEither (tMethS Z.Shifted "told" (spD K (RF (FF 1))) (fun _ => E0) (tFld K (tVar 0) "other") tNil) (tEither (tMethS Z.Flipped "told" (spD K (RF (FF 2))) (fun _ => E0) (tFld K (tVar 0) "other") tNil) (tMethS Z.Joint "told" (spD K (RF (FF 3))) (fun _ => E0) (tFld K (tVar 0) "other") tNil)))))) tNil))))))
theorem rd_Joint_told (K : PySem.W.Frag) (Z : Zs) (W : WX) (FF : Nat → List D → M S) : (b_Joint_told Z FF).t K W = t_Joint_told K Z FF := by kernel_rfl
noncomputable def t_Flipped_told (K : PySem.W.Frag) (Z : Zs) (FF : Nat → List D → M S) : TS :=
  (tRet (tTupP (tCons (tC (.str "flipped")) (tCons (tEither (tMethS Z.Named "told" (spD K (RF (F_Named_told Z))) (fun _ => E0) (tFld K (tVar 0) "tree") tNil) (tEither (tMethS Z.Flat "told" (spD K (RF (F_Flat_told Z))) (fun _ => E0) (tFld K (tVar 0) "tree") tNil) (tEither (tMethS Z.Only "told" (spD K (RF (FF 0))) (fun _ => E0) (tFld K (tVar 0) "tree") tNil) (tEither (tMethS Z.Shifted "told" (spD K (RF (FF 1))) (fun _ => E0) (tFld K (tVar 0) "tree") tNil) (tEither (tMethS Z.Flipped "told" (spD K (RF (FF 2))) (fun _ => E0) (tFld K (tVar 0) "tree") tNil) (tMethS Z.Joint "told" (spD K (RF (FF 3))) (fun _ => E0) (tFld K (tVar 0) "tree") tNil)))))) (tCons (tFld K (tVar 0) "about") tNil)))))
theorem rd_Flipped_told (K : PySem.W.Frag) (Z : Zs) (W : WX) (FF : Nat → List D → M S) : (b_Flipped_told Z FF).t K W = t_Flipped_told K Z FF := by kernel_rfl
noncomputable def t_Shifted_told (K : PySem.W.Frag) (Z : Zs) (FF : Nat → List D → M S) : TS :=
  (tRet (tTupP (tCons (tC (.str "shifted")) (tCons (tEither (tMethS Z.Named "told" (spD K (RF (F_Named_told Z))) (fun _ => E0) (tFld K (tVar 0) "tree") tNil) (tEither (tMethS Z.Flat "told" (spD K (RF (F_Flat_told Z))) (fun _ => E0) (tFld K (tVar 0) "tree") tNil) (tEither (tMethS Z.Only "told" (spD K (RF (FF 0))) (fun _ => E0) (tFld K (tVar 0) "tree") tNil) (tEither (tMethS Z.Shifted "told" (spD K (RF (FF 1))) (fun _ => E0) (tFld K (tVar 0) "tree") tNil) (tEither (tMethS Z.Flipped "told" (spD K (RF (FF 2))) (fun _ => E0) (tFld K (tVar 0) "tree") tNil) (tMethS Z.Joint "told" (spD K (RF (FF 3))) (fun _ => E0) (tFld K (tVar 0) "tree") tNil)))))) (tCons (tFld K (tVar 0) "by") tNil)))))
theorem rd_Shifted_told (K : PySem.W.Frag) (Z : Zs) (W : WX) (FF : Nat → List D → M S) : (b_Shifted_told Z FF).t K W = t_Shifted_told K Z FF := by kernel_rfl
noncomputable def t_Only_told (K : PySem.W.Frag) (Z : Zs) (FF : Nat → List D → M S) : TS :=
  (tRet (tTupP (tCons (tC (.str "only")) (tCons (tEither (tMethS Z.Named "told" (spD K (RF (F_Named_told Z))) (fun _ => E0) (tFld K (tVar 0) "tree") tNil) (tEither (tMethS Z.Flat "told" (spD K (RF (F_Flat_told Z))) (fun _ => E0) (tFld K (tVar 0) "tree") tNil) (tEither (tMethS Z.Only "told" (spD K (RF (FF 0))) (fun _ => E0) (tFld K (tVar 0) "tree") tNil) (tEither (tMethS Z.Shifted "told" (spD K (RF (FF 1))) (fun _ => E0) (tFld K (tVar 0) "tree") tNil) (tEither (tMethS Z.Flipped "told" (spD K (RF (FF 2))) (fun _ => E0) (tFld K (tVar 0) "tree") tNil) (tMethS Z.Joint "told" (spD K (RF (FF 3))) (fun _ => E0) (tFld K (tVar 0) "tree") tNil)))))) (tCons (tFld K (tVar 0) "span") tNil)))))
theorem rd_Only_told (K : PySem.W.Frag) (Z : Zs) (W : WX) (FF : Nat → List D → M S) : (b_Only_told Z FF).t K W = t_Only_told K Z FF := by kernel_rfl
noncomputable def t_Shifted_limbs (K : PySem.W.Frag) (Z : Zs) : TS :=
  (tRet (tTupP (tCons (tFld K (tVar 0) "tree") tNil)))
theorem rd_Shifted_limbs (K : PySem.W.Frag) (Z : Zs) (W : WX) : (b_Shifted_limbs Z).t K W = t_Shifted_limbs K Z := by kernel_rfl
noncomputable def t_Flipped_limbs (K : PySem.W.Frag) (Z : Zs) : TS :=
  (tRet (tTupP (tCons (tFld K (tVar 0) "tree") tNil)))
theorem rd_Flipped_limbs (K : PySem.W.Frag) (Z : Zs) (W : WX) : (b_Flipped_limbs Z).t K W = t_Flipped_limbs K Z := by kernel_rfl
noncomputable def t_Joint_limbs (K : PySem.W.Frag) (Z : Zs) : TS :=
  (tRet (tTupP (tCons (tFld K (tVar 0) "one") (tCons (tFld K (tVar 0) "other") tNil))))
theorem rd_Joint_limbs (K : PySem.W.Frag) (Z : Zs) (W : WX) : (b_Joint_limbs Z).t K W = t_Joint_limbs K Z := by kernel_rfl
noncomputable def t_all_parts (K : PySem.W.Frag) (Z : Zs) (FF : List D → M S) : TS :=
  (tSeq (tAsg (tLst (tCons (tVar 0) tNil)) (gName 1))
  (tSeq (tFor (iSeq K (tEither (tMethS Z.Tree "limbs" (spD K (RF (F_Tree_limbs Z))) (fun _ => E0) (tVar 0) tNil) (tEither (tMethS Z.Named "limbs" (spD K (RF (F_Tree_limbs Z))) (fun _ => E0) (tVar 0) tNil) (tEither (tMethS Z.Flat "limbs" (spD K (RF (F_Tree_limbs Z))) (fun _ => E0) (tVar 0) tNil) (tEither (tMethS Z.Only "limbs" (spD K (RF (F_Only_limbs Z))) (fun _ => E0) (tVar 0) tNil) (tEither (tMethS Z.Shifted "limbs" (spD K (RF (F_Shifted_limbs Z))) (fun _ => E0) (tVar 0) tNil) (tEither (tMethS Z.Flipped "limbs" (spD K (RF (F_Flipped_limbs Z))) (fun _ => E0) (tVar 0) tNil) (tMethS Z.Joint "limbs" (spD K (RF (F_Joint_limbs Z))) (fun _ => E0) (tVar 0) tNil)))))))) (gName 2)
  (tAsg (tOp (rAddU K) (tVar 1) (tCall (spD K (RF FF)) [] E0 (tCons (tVar 2) tNil))) (gName 1)))
  (tRet (tVar 1))))
theorem rd_all_parts (K : PySem.W.Frag) (Z : Zs) (W : WX) (FF : List D → M S) : (b_all_parts Z FF).t K W = t_all_parts K Z FF := by kernel_rfl
noncomputable def t_names_in (K : PySem.W.Frag) (Z : Zs) : TS :=
  (tSeq (tAsg (tLst tNil) (gName 1))
  (tSeq (tFor (iSeq K (tCall (spD K (RF (F_all_parts Z))) [] E0 (tCons (tVar 0) tNil))) (gName 2)
  (tAsg (tOp (rAddU K) (tVar 1) (tEither (tMethS Z.Tree "own_names" (spD K (RF (F_Tree_own_names Z))) (fun _ => E0) (tVar 2) tNil) (tEither (tMethS Z.Named "own_names" (spD K (RF (F_Named_own_names Z))) (fun _ => E0) (tVar 2) tNil) (tEither (tMethS Z.Flat "own_names" (spD K (RF (F_Tree_own_names Z))) (fun _ => E0) (tVar 2) tNil) (tEither (tMethS Z.Only "own_names" (spD K (RF (F_Tree_own_names Z))) (fun _ => E0) (tVar 2) tNil) (tEither (tMethS Z.Shifted "own_names" (spD K (RF (F_Tree_own_names Z))) (fun _ => E0) (tVar 2) tNil) (tEither (tMethS Z.Flipped "own_names" (spD K (RF (F_Tree_own_names Z))) (fun _ => E0) (tVar 2) tNil) (tMethS Z.Joint "own_names" (spD K (RF (F_Tree_own_names Z))) (fun _ => E0) (tVar 2) tNil)))))))) (gName 1)))
  (tRet (tSortTx K (tVar 1)))))
theorem rd_names_in (K : PySem.W.Frag) (Z : Zs) (W : WX) : (b_names_in Z).t K W = t_names_in K Z := by kernel_rfl
noncomputable def t_parts_in (K : PySem.W.Frag) (Z : Zs) : TS :=
  (tRet (tCB (rLenU K) (tCons (tCall (spD K (RF (F_all_parts Z))) [] E0 (tCons (tVar 0) tNil)) tNil)))
theorem rd_parts_in (K : PySem.W.Frag) (Z : Zs) (W : WX) : (b_parts_in Z).t K W = t_parts_in K Z := by kernel_rfl
noncomputable def t_l_cell (K : PySem.W.Frag) (Z : Zs) : TS :=
  (tSeq (tAsg (tOp (rAddU K) (tOp (rMulU K) (tC (.int 7919)) (tVar 1)) (tC (.int 11))) (gName 2))
  (tSeq (tIfS (tTest (tOp (rNeU K) (tVar 0) (tLst tNil)))
  (tSeq (tAsg (tOp (rMulU K) (tOp (rIx K) (tVar 0) (tOp (rI (fun _ j => 0 < j) fun i j => .int (i % j)) (tVar 1) (tCB (rLenU K) (tCons (tVar 0) tNil)))) (tC (.int 48271))) (gName 2))
  (tAsg (tOp (rAddU K) (tOp (rAddU K) (tVar 2) (tOp (rMulU K) (tC (.int 104729)) (tVar 1))) (tOp (rMulU K) (tOp (rI CDivW fun i j => .int (i / j)) (tVar 1) (tCB (rLenU K) (tCons (tVar 0) tNil))) (tC (.int 7919)))) (gName 2)))
  tNext)
  (tSeq (tAsg (tOp (rI (fun _ j => 0 < j) fun i j => .int (i % j)) (tVar 2) (tC (.int 2147483647))) (gName 3))
  (tSeq (tAsg (tOp (rI (fun _ j => 0 < j) fun i j => .int (i % j)) (tOp (rMulU K) (tVar 3) (tVar 3)) (tC (.int 2147483629))) (gName 3))
  (tRet (tOp (rI (fun _ j => 0 < j) fun i j => .int (i % j)) (tOp (rAddU K) (tOp (rAddU K) (tOp (rMulU K) (tVar 3) (tVar 3)) (tOp (rMulU K) (tC (.int 69621)) (tVar 3))) (tVar 1)) (tC (.int 2147483587))))))))
theorem rd_l_cell (K : PySem.W.Frag) (Z : Zs) (W : WX) : (b_l_cell Z).t K W = t_l_cell K Z := by kernel_rfl
noncomputable def t_l_value (K : PySem.W.Frag) (Z : Zs) : TS :=
  (tSeq (tAsg (tOp (rMulU K) (tOp (rMulU K) (tVar 0) (tVar 0)) (tVar 0)) (gName 1))
  (tSeq (tAsg (tOp (rI (fun _ j => 0 < j) fun i j => .int (i % j)) (tOp (rMulU K) (tOp (rMulU K) (tVar 1) (tVar 1)) (tVar 0)) (tOp (rI CPow fun i j => .int (i ^ j.toNat)) (tC (.int 10)) (tC (.int 60)))) (gName 1))
  (tSeq (tAsg (tOp (rI (fun _ j => 0 < j) fun i j => .int (i % j)) (tVar 0) (tC (.int 12))) (gName 2))
  (tSeq (tIfS (tTest (tOp (rI0 fun i j => .bl (decide (i < j))) (tVar 2) (tC (.int 9))))
  (tRet (tOp (rIx K) (tLst (tCons (tC .non) (tCons (tC (.int 0)) (tCons (tC (.int 1)) (tCons (tC (.int 5)) (tCons (tC .non) (tCons (tC (.int 1)) (tCons (tUn (rU fun i => .int (-i)) (tC (.int 1))) (tCons (tC (.int 2)) (tCons (tC (.int 5)) tNil)))))))))) (tVar 2)))
  tNext)
  (tRet (tOp (rIx K) (tLst (tCons (tOp (rI0 fun i j => .int (i - j)) (tOp (rI (fun _ j => 0 < j) fun i j => .int (i % j)) (tOp (rI CDivW fun i j => .int (i / j)) (tVar 0) (tC (.int 12))) (tC (.int 100))) (tC (.int 50))) (tCons (tVar 1) (tCons (tUn (rU fun i => .int (-i)) (tVar 1)) tNil)))) (tOp (rI0 fun i j => .int (i - j)) (tVar 2) (tC (.int 9)))))))))
theorem rd_l_value (K : PySem.W.Frag) (Z : Zs) (W : WX) : (b_l_value Z).t K W = t_l_value K Z := by kernel_rfl
noncomputable def t_l_word_of (K : PySem.W.Frag) (Z : Zs) : TS :=
  (tSeq (tAsg (tLst (tCons (tCB (rIsU K) (tCons (tVar 0) (tCons (tC (.ref Z.NoSpan)) tNil))) (tCons (tCB (rIsU K) (tCons (tVar 0) (tCons (tC (.ref Z.NoValue)) tNil))) (tCons (tCB (rIsU K) (tCons (tVar 0) (tCons (tC (.ref Z.NoPlace)) tNil))) tNil)))) (gName 1))
  (tSeq (tAsg (tOp (rAddU K) (tVar 1) (tLst (tCons (tCB (rIsU K) (tCons (tVar 0) (tCons (tC (.ref Z.NoCount)) tNil))) (tCons (tCB (rIsU K) (tCons (tVar 0) (tCons (tC (.ref Z.NoRow)) tNil))) (tCons (tCB (rIsU K) (tCons (tVar 0) (tCons (tC (.ref Z.NoWord)) tNil))) tNil))))) (gName 1))
  (tSeq (tAsg (tOp (rAddU K) (tVar 1) (tLst (tCons (tCB (rIsU K) (tCons (tVar 0) (tCons (tC (.ref Z.NoName)) tNil))) (tCons (tCB (rIsU K) (tCons (tVar 0) (tCons (tC (.ref Z.NoTree)) tNil))) (tCons (tCB (rIsU K) (tCons (tVar 0) (tCons (tC (.ref Z.TooMany)) tNil))) tNil))))) (gName 1))
  (tSeq (tAsg (tOp (rAddU K) (tVar 1) (tLst (tCons (tCB (rIsU K) (tCons (tVar 0) (tCons (tC (.ref Z.NoText)) tNil))) (tCons (tCB (rIsU K) (tCons (tVar 0) (tCons (tC (.ref Z.NoWheel)) tNil))) (tCons (tCB (rIsU K) (tCons (tVar 0) (tCons (tC (.ref Z.NoWalker)) tNil))) tNil))))) (gName 1))
  (tSeq (tAsg (tLst (tCons (tC (.str "NoSpan")) (tCons (tC (.str "NoValue")) (tCons (tC (.str "NoPlace")) (tCons (tC (.str "NoCount")) (tCons (tC (.str "NoRow")) (tCons (tC (.str "NoWord")) (tCons (tC (.str "NoName")) (tCons (tC (.str "NoTree")) (tCons (tC (.str "TooMany")) tNil)))))))))) (gName 2))
  (tSeq (tAsg (tOp (rAddU K) (tVar 2) (tLst (tCons (tC (.str "NoText")) (tCons (tC (.str "NoWheel")) (tCons (tC (.str "NoWalker")) tNil))))) (gName 2))
  (tSeq (tIfS (tOr (tTest (tOp (rNeU K) (tEither (tBM K "list" (rCnt K) (tVar 1) (tCons (tC (.bl true)) tNil)) (tBP K (rCntT K) (tVar 1) (tCons (tC (.bl true)) tNil))) (tC (.int 1)))) (tOr (tNot (tTru K (tCB (rIsU K) (tCons (tVar 0) (tCons (tC (.ty "ValueError")) tNil))))) (tTru K (tCB (rIsU K) (tCons (tVar 0) (tCons (tTupP (tCons (tC (.ref Z.NoState)) (tCons (tC (.ref Z.NoVersion)) tNil))) tNil))))))
  (tRet (tC (.str "other")))
  tNext)
  (tRet (tOp (rIx K) (tVar 2) (tBM K "list" (rIndex K) (tVar 1) (tCons (tC (.bl true)) tNil)))))))))))
theorem rd_l_word_of (K : PySem.W.Frag) (Z : Zs) (W : WX) : (b_l_word_of Z).t K W = t_l_word_of K Z := by kernel_rfl
noncomputable def t_l_titles (K : PySem.W.Frag) (Z : Zs) : TS :=
  (tRet (tLst (tCons (tC (.str "over")) (tCons (tC (.str "where")) (tCons (tC (.str "without")) (tCons (tC (.str "sum")) (tCons (tC (.str "less")) (tCons (tC (.str "least")) (tCons (tC (.str "greatest")) (tCons (tC (.str "same")) tNil))))))))))
theorem rd_l_titles (K : PySem.W.Frag) (Z : Zs) (W : WX) : (b_l_titles Z).t K W = t_l_titles K Z := by kernel_rfl
noncomputable def t_l_names (K : PySem.W.Frag) (Z : Zs) : TS :=
  (tRet (tLst (tCons (tC (.str "a")) (tCons (tC (.str "b")) (tCons (tC (.str "row")) (tCons (tC (.str "abcdefgh")) (tCons (tC (.str "turned")) (tCons (tC (.str "named")) tNil))))))))
theorem rd_l_names (K : PySem.W.Frag) (Z : Zs) (W : WX) : (b_l_names Z).t K W = t_l_names K Z := by kernel_rfl
noncomputable def t_l_near_span (K : PySem.W.Frag) (Z : Zs) : TS :=
  (tSeq (tAsg (tOp (rI0 fun i j => .int (i - j)) (tOp (rI (fun _ j => 0 < j) fun i j => .int (i % j)) (tOp (rI CDivW fun i j => .int (i / j)) (tVar 0) (tC (.int 9))) (tC (.int 25))) (tC (.int 12))) (gName 1))
  (tSeq (tAsg (tOp (rAddU K) (tVar 1) (tOp (rI (fun _ j => 0 < j) fun i j => .int (i % j)) (tOp (rI CDivW fun i j => .int (i / j)) (tVar 0) (tC (.int 300))) (tC (.int 14)))) (gName 2))
  (tSeq (tAsg (tLst (tCons (tTupP (tCons (tVar 1) (tCons (tVar 2) tNil))) (tCons (tTupP (tCons (tVar 1) (tCons (tVar 2) tNil))) (tCons (tTupP (tCons (tC .non) (tCons (tVar 2) tNil))) (tCons (tTupP (tCons (tVar 1) (tCons (tC .non) tNil))) (tCons (tTupP (tCons (tC .non) (tCons (tC .non) tNil))) (tCons (tTupP (tCons (tVar 1) (tCons (tVar 1) tNil))) tNil))))))) (gName 3))
  (tRet (tOp (rIx K) (tOp (rAddU K) (tVar 3) (tLst (tCons (tTupP (tCons (tVar 1) (tCons (tVar 2) tNil))) (tCons (tTupP (tCons (tC .non) (tCons (tVar 2) tNil))) (tCons (tTupP (tCons (tVar 1) (tCons (tC .non) tNil))) tNil))))) (tOp (rI (fun _ j => 0 < j) fun i j => .int (i % j)) (tVar 0) (tC (.int 9))))))))
theorem rd_l_near_span (K : PySem.W.Frag) (Z : Zs) (W : WX) : (b_l_near_span Z).t K W = t_l_near_span K Z := by kernel_rfl
noncomputable def t_l_tree (K : PySem.W.Frag) (Z : Zs) (FF : List D → M S) : TS :=
  (tSeq (tAsg (tCall (spD K (RF (F_l_cell Z))) [] E0 (tCons (tVar 0) (tCons (tOp (rAddU K) (tVar 1) (tVar 2)) tNil))) (gName 4))
  (tSeq (tAsg (tOp (rI CDivW fun i j => .int (i / j)) (tVar 4) (tC (.int 17))) (gName 5))
  (tSeq (tAsg (tOp (rIx K) (tLst (tCons (tC (.int 0)) (tCons (tC (.int 0)) (tCons (tC (.int 1)) (tCons (tC (.int 2)) (tCons (tC (.int 2)) (tCons (tC (.int 3)) (tCons (tC (.int 3)) (tCons (tC (.int 4)) (tCons (tC (.int 4)) (tCons (tC (.int 5)) (tCons (tC (.int 5)) (tCons (tC (.int 5)) (tCons (tC (.int 5)) (tCons (tC (.int 5)) (tCons (tC (.int 2)) (tCons (tC (.int 3)) (tCons (tC (.int 4)) tNil)))))))))))))))))) (tOp (rI (fun _ j => 0 < j) fun i j => .int (i % j)) (tVar 4) (tC (.int 17)))) (gName 6))
  (tSeq (tIfS (tTest (tOp (rEqU K) (tVar 3) (tC (.int 0))))
  (tAsg (tOp (rI CDivW fun i j => .int (i / j)) (tOp (rI (fun _ j => 0 < j) fun i j => .int (i % j)) (tVar 6) (tC (.int 3))) (tC (.int 2))) (gName 6))
  tNext)
  (tSeq (tIfS (tTest (tOp (rEqU K) (tVar 6) (tC (.int 0))))
  (tRet (tTupP (tCons (tC (.str "named")) (tCons (tOp (rIx K) (tCall (spD K (RF (F_l_names Z))) [] E0 tNil) (tOp (rI (fun _ j => 0 < j) fun i j => .int (i % j)) (tVar 5) (tC (.int 6)))) tNil))))
  tNext)
  (tSeq (tIfS (tTest (tOp (rEqU K) (tVar 6) (tC (.int 1))))
  (tRet (tTupP (tCons (tC (.str "flat")) (tCons (tOp (rIx K) (tLst (tCons (tC .non) (tCons (tC .non) (tCons (tCall (spD K (RF (F_l_value Z))) [] E0 (tCons (tVar 5) tNil)) tNil)))) (tOp (rI (fun _ j => 0 < j) fun i j => .int (i % j)) (tVar 5) (tC (.int 3)))) tNil))))
  tNext)
  (tSeq (tAsg (tCall (spD K (RF FF)) [] E0 (tCons (tVar 0) (tCons (tVar 1) (tCons (tOp (rMulU K) (tC (.int 2)) (tVar 2)) (tCons (tOp (rI0 fun i j => .int (i - j)) (tVar 3) (tC (.int 1))) tNil))))) (gName 7))
  (tSeq (tIfS (tTest (tOp (rEqU K) (tVar 6) (tC (.int 2))))
  (tRet (tTupP (tCons (tC (.str "only")) (tCons (tVar 7) (tCons (tCall (spD K (RF (F_l_near_span Z))) [] E0 (tCons (tVar 5) tNil)) tNil)))))
  tNext)
  (tSeq (tIfS (tTest (tOp (rEqU K) (tVar 6) (tC (.int 3))))
  (tRet (tTupP (tCons (tC (.str "shifted")) (tCons (tVar 7) (tCons (tOp (rI0 fun i j => .int (i - j)) (tOp (rI (fun _ j => 0 < j) fun i j => .int (i % j)) (tVar 5) (tC (.int 15))) (tC (.int 7))) tNil)))))
  tNext)
  (tSeq (tIfS (tTest (tOp (rEqU K) (tVar 6) (tC (.int 4))))
  (tRet (tTupP (tCons (tC (.str "flipped")) (tCons (tVar 7) (tCons (tOp (rI0 fun i j => .int (i - j)) (tOp (rI (fun _ j => 0 < j) fun i j => .int (i % j)) (tVar 5) (tC (.int 15))) (tC (.int 7))) tNil)))))
  tNext)
  (tRet (tTupP (tCons (tC (.str "joint")) (tCons (tOp (rIx K) (tCall (spD K (RF (F_l_titles Z))) [] E0 tNil) (tOp (rI (fun _ j => 0 < j) fun i j => .int (i % j)) (tVar 5) (tC (.int 8)))) (tCons (tVar 7) (tCons (tCall (spD K (RF FF)) [] E0 (tCons (tVar 0) (tCons (tVar 1) (tCons (tOp (rAddU K) (tOp (rMulU K) (tC (.int 2)) (tVar 2)) (tC (.int 1))) (tCons (tOp (rI0 fun i j => .int (i - j)) (tVar 3) (tC (.int 1))) tNil))))) tNil))))))))))))))))
theorem rd_l_tree (K : PySem.W.Frag) (Z : Zs) (W : WX) (FF : List D → M S) : (b_l_tree Z FF).t K W = t_l_tree K Z FF := by kernel_rfl
noncomputable def t_l_made (K : PySem.W.Frag) (Z : Zs) (FF : List D → M S) : TS :=
  (tSeq (tAsg (tOp (rIx K) (tVar 0) (tC (.int 0))) (gName 1))
  (tSeq (tIfS (tTest (tOp (rEqU K) (tVar 1) (tC (.str "named"))))
  (tRet (tMakeS Z.Named (spI K Z.Named (RI Z.Named (F_Named_init Z))) (fun _ => E0) (tCons (tOp (rIx K) (tVar 0) (tC (.int 1))) tNil)))
  tNext)
  (tSeq (tIfS (tTest (tOp (rEqU K) (tVar 1) (tC (.str "flat"))))
  (tRet (tMakeS Z.Flat (spI K Z.Flat (RI Z.Flat (F_Flat_init Z))) (fun _ => E0) (tCons (tOp (rIx K) (tVar 0) (tC (.int 1))) tNil)))
  tNext)
  (tSeq (tIfS (tTest (tOp (rEqU K) (tVar 1) (tC (.str "joint"))))
  (tRet (tMakeS Z.Joint (spI K Z.Joint (RI Z.Joint (F_Joint_init Z))) (fun _ => E0) (tCons (tOp (rIx K) (tVar 0) (tC (.int 1))) (tCons (tCall (spD K (RF FF)) [] E0 (tCons (tOp (rIx K) (tVar 0) (tC (.int 2))) tNil)) (tCons (tCall (spD K (RF FF)) [] E0 (tCons (tOp (rIx K) (tVar 0) (tC (.int 3))) tNil)) tNil)))))
  tNext)
  (tSeq (tAsg (tCall (spD K (RF FF)) [] E0 (tCons (tOp (rIx K) (tVar 0) (tC (.int 1))) tNil)) (gName 2))
  (tSeq (tIfS (tTest (tOp (rEqU K) (tVar 1) (tC (.str "only"))))
  (tRet (tMakeS Z.Only (spI K Z.Only (RI Z.Only (F_Only_init Z))) (fun _ => E0) (tCons (tVar 2) (tCons (tOp (rIx K) (tVar 0) (tC (.int 2))) tNil))))
  tNext)
  (tSeq (tIfS (tTest (tOp (rEqU K) (tVar 1) (tC (.str "shifted"))))
  (tRet (tMakeS Z.Shifted (spI K Z.Shifted (RI Z.Shifted (F_Shifted_init Z))) (fun _ => E0) (tCons (tVar 2) (tCons (tOp (rIx K) (tVar 0) (tC (.int 2))) tNil))))
  tNext)
  (tRet (tMakeS Z.Flipped (spI K Z.Flipped (RI Z.Flipped (F_Flipped_init Z))) (fun _ => E0) (tCons (tVar 2) (tCons (tOp (rIx K) (tVar 0) (tC (.int 2))) tNil)))))))))))
theorem rd_l_made (K : PySem.W.Frag) (Z : Zs) (W : WX) (FF : List D → M S) : (b_l_made Z FF).t K W = t_l_made K Z FF := by kernel_rfl
noncomputable def t_l_kinds (K : PySem.W.Frag) (Z : Zs) (FF : List D → M S) : TS :=
  (tSeq (tIfS (tTest (tOp (rInU K) (tOp (rIx K) (tVar 0) (tC (.int 0))) (tLst (tCons (tC (.str "named")) (tCons (tC (.str "flat")) tNil)))))
  (tRet (tLst (tCons (tOp (rIx K) (tVar 0) (tC (.int 0))) tNil)))
  tNext)
  (tSeq (tAsg (tLc (iSeq K (tSl (rSlU K) (tVar 0) (tPart (tC (.int 1))) tNoPart)) (gName 2) (tAnd (tTru K (tCB (rIsU K) (tCons (tVar 2) (tCons (tC (.ty "tuple")) tNil)))) (tAnd (tTest (tOp (rI0 fun i j => .bl (decide (j < i))) (tCB (rLenU K) (tCons (tVar 2) tNil)) (tC (.int 1)))) (tTru K (tCB (rIsU K) (tCons (tOp (rIx K) (tVar 2) (tC (.int 0))) (tCons (tC (.ty "str")) tNil)))))) (tVar 2) [2]) (gName 1))
  (tSeq (tAsg (tLst (tCons (tOp (rIx K) (tVar 0) (tC (.int 0))) tNil)) (gName 3))
  (tSeq (tFor (iSeq K (tVar 1)) (gName 2)
  (tAsg (tOp (rAddU K) (tVar 3) (tCall (spD K (RF FF)) [] E0 (tCons (tVar 2) tNil))) (gName 3)))
  (tRet (tVar 3))))))
theorem rd_l_kinds (K : PySem.W.Frag) (Z : Zs) (W : WX) (FF : List D → M S) : (b_l_kinds Z FF).t K W = t_l_kinds K Z FF := by kernel_rfl
noncomputable def t_l_names_of (K : PySem.W.Frag) (Z : Zs) (FF : List D → M S) : TS :=
  (tSeq (tIfS (tTest (tOp (rEqU K) (tOp (rIx K) (tVar 0) (tC (.int 0))) (tC (.str "named"))))
  (tRet (tLst (tCons (tOp (rIx K) (tVar 0) (tC (.int 1))) tNil)))
  tNext)
  (tSeq (tAsg (tLst tNil) (gName 1))
  (tSeq (tFor (iSeq K (tSl (rSlU K) (tVar 0) (tPart (tC (.int 1))) tNoPart)) (gName 2)
  (tIfS (tAnd (tTru K (tCB (rIsU K) (tCons (tVar 2) (tCons (tC (.ty "tuple")) tNil)))) (tAnd (tTest (tOp (rI0 fun i j => .bl (decide (j < i))) (tCB (rLenU K) (tCons (tVar 2) tNil)) (tC (.int 1)))) (tTru K (tCB (rIsU K) (tCons (tOp (rIx K) (tVar 2) (tC (.int 0))) (tCons (tC (.ty "str")) tNil))))))
  (tAsg (tOp (rAddU K) (tVar 1) (tCall (spD K (RF FF)) [] E0 (tCons (tVar 2) tNil))) (gName 1))
  tNext))
  (tRet (tVar 1)))))
theorem rd_l_names_of (K : PySem.W.Frag) (Z : Zs) (W : WX) (FF : List D → M S) : (b_l_names_of Z FF).t K W = t_l_names_of K Z FF := by kernel_rfl
noncomputable def t_l_fields_right (K : PySem.W.Frag) (Z : Zs) (FF : List D → M S) : TS :=
  (tSeq (tAsg (tOp (rIx K) (tVar 1) (tC (.int 0))) (gName 2))
  (tSeq (tIfS (tTest (tOp (rEqU K) (tVar 2) (tC (.str "named"))))
  (tRet (tOp (rEqU K) (tFld K (tVar 0) "name") (tOp (rIx K) (tVar 1) (tC (.int 1)))))
  tNext)
  (tSeq (tIfS (tTest (tOp (rEqU K) (tVar 2) (tC (.str "flat"))))
  (tRet (tAndT K (tOp (rEqU K) (tFld K (tVar 0) "value") (tOp (rIx K) (tVar 1) (tC (.int 1)))) (tOp (rEqU K) (tOp (rIsN) (tFld K (tVar 0) "value") (tC .non)) (tOp (rIsN) (tOp (rIx K) (tVar 1) (tC (.int 1))) (tC .non)))))
  tNext)
  (tSeq (tIfS (tTest (tOp (rEqU K) (tVar 2) (tC (.str "joint"))))
  (tSeq (tAsg (tAndT K (tOp (rEqU K) (tFld K (tVar 0) "title") (tOp (rIx K) (tVar 1) (tC (.int 1)))) (tCall (spD K (RF FF)) [] E0 (tCons (tFld K (tVar 0) "one") (tCons (tOp (rIx K) (tVar 1) (tC (.int 2))) tNil)))) (gName 3))
  (tRet (tAndT K (tVar 3) (tCall (spD K (RF FF)) [] E0 (tCons (tFld K (tVar 0) "other") (tCons (tOp (rIx K) (tVar 1) (tC (.int 3))) tNil))))))
  tNext)
  (tSeq (tIfS (tOr (tAnd (tTest (tOp (rEqU K) (tVar 2) (tC (.str "only")))) (tTest (tOp (rNeU K) (tFld K (tVar 0) "span") (tOp (rIx K) (tVar 1) (tC (.int 2)))))) (tAnd (tTest (tOp (rEqU K) (tVar 2) (tC (.str "shifted")))) (tTest (tOp (rNeU K) (tFld K (tVar 0) "by") (tOp (rIx K) (tVar 1) (tC (.int 2)))))))
  (tRet (tC (.bl false)))
  tNext)
  (tSeq (tIfS (tAnd (tTest (tOp (rEqU K) (tVar 2) (tC (.str "flipped")))) (tTest (tOp (rNeU K) (tFld K (tVar 0) "about") (tOp (rIx K) (tVar 1) (tC (.int 2))))))
  (tRet (tC (.bl false)))
  tNext)
  (tRet (tCall (spD K (RF FF)) [] E0 (tCons (tFld K (tVar 0) "tree") (tCons (tOp (rIx K) (tVar 1) (tC (.int 1))) tNil))))))))))
theorem rd_l_fields_right (K : PySem.W.Frag) (Z : Zs) (W : WX) (FF : List D → M S) : (b_l_fields_right Z FF).t K W = t_l_fields_right K Z FF := by kernel_rfl
noncomputable def t_l_odd_name (K : PySem.W.Frag) (Z : Zs) : TS :=
  (tSeq (tAsg (tLst (tCons (tC (.str "")) (tCons (tC (.str "A")) (tCons (tC (.str "a1")) (tCons (tC (.str "abcdefghi")) (tCons (tC (.str "a b")) (tCons (tC .non) (tCons (tC (.int 5)) (tCons (tLst (tCons (tC (.str "a")) tNil)) (tCons (tC (.str "flat")) (tCons (tC (.str "only")) (tCons (tC (.str "shifted")) (tCons (tC (.str "flipped")) (tCons (tC (.str "over")) (tCons (tC (.str "where")) tNil))))))))))))))) (gName 1))
  (tSeq (tAsg (tOp (rAddU K) (tVar 1) (tLst (tCons (tC (.str "without")) (tCons (tC (.str "sum")) (tCons (tC (.str "less")) (tCons (tC (.str "least")) (tCons (tC (.str "greatest")) (tCons (tC (.str "same")) (tCons (tC (.str "a
")) (tCons (tC (.str "-")) (tCons (tTupP (tCons (tC (.str "a")) tNil)) (tCons (tC (.bl true)) tNil)))))))))))) (gName 1))
  (tRet (tOp (rIx K) (tVar 1) (tOp (rI (fun _ j => 0 < j) fun i j => .int (i % j)) (tVar 0) (tC (.int 24)))))))
theorem rd_l_odd_name (K : PySem.W.Frag) (Z : Zs) (W : WX) : (b_l_odd_name Z).t K W = t_l_odd_name K Z := by kernel_rfl
noncomputable def t_l_is_name (K : PySem.W.Frag) (Z : Zs) : TS :=
  (tSeq (tIfS (tOr (tNot (tTru K (tCB (rIsU K) (tCons (tVar 0) (tCons (tC (.ty "str")) tNil))))) (tOr (tNot (tTest (tChain (rI0 fun i j => .bl (decide (i ≤ j))) (rI0 fun i j => .bl (decide (i ≤ j))) (tC (.int 1)) (tCB (rLenU K) (tCons (tVar 0) tNil)) (tC (.int 8))))) (tTest (tOp (rInU K) (tVar 0) (tCall (spD K (RF (F_l_titles Z))) [] E0 tNil)))))
  (tRet (tC (.bl false)))
  tNext)
  (tSeq (tIfS (tTest (tOp (rInU K) (tVar 0) (tLst (tCons (tC (.str "flat")) (tCons (tC (.str "only")) (tCons (tC (.str "shifted")) (tCons (tC (.str "flipped")) tNil)))))))
  (tRet (tC (.bl false)))
  tNext)
  (tRet (tOp (rEqU K) (tLc (iStr (tVar 0)) (gName 1) (tTest (tOp (rNotInU K) (tVar 1) (tC (.str "abcdefghijklmnopqrstuvwxyz")))) (tVar 1) [1]) (tLst tNil)))))
theorem rd_l_is_name (K : PySem.W.Frag) (Z : Zs) (W : WX) : (b_l_is_name Z).t K W = t_l_is_name K Z := by kernel_rfl
noncomputable def t_l_wrong (K : PySem.W.Frag) (Z : Zs) (W : WX) : TS :=
  (tSeq (tAsg (tMakeS Z.Flat (spI K Z.Flat (RI Z.Flat (F_Flat_init Z))) (WE W) (tCons (tC (.int 5)) tNil)) (gName 1))
  (tSeq (tAsg (tOp (rIx K) (tLst (tCons (tC .non) (tCons (tC (.str "a")) (tCons (tC (.int 5)) (tCons (tTupP (tCons (tC (.str "flat")) (tCons (tC (.int 5)) tNil))) (tCons (tLst (tCons (tC (.str "a")) tNil)) (tCons tDNewK (tCons (tC (.bl true)) tNil)))))))) (tOp (rI (fun _ j => 0 < j) fun i j => .int (i % j)) (tOp (rI CDivW fun i j => .int (i / j)) (tVar 0) (tC (.int 9))) (tC (.int 7)))) (gName 2))
  (tSeq (tAsg (tOp (rIx K) (tLst (tCons (tTupP (tCons (tC (.int 3)) (tCons (tC (.int 2)) tNil))) (tCons (tTupP (tCons (tC (.int 1)) tNil)) (tCons (tLst (tCons (tC (.int 1)) (tCons (tC (.int 2)) tNil))) (tCons (tC .non) (tCons (tC (.str "..")) (tCons (tTupP (tCons (tC (.bl true)) (tCons (tC (.int 5)) tNil))) (tCons (tC (.int 7)) tNil)))))))) (tOp (rI (fun _ j => 0 < j) fun i j => .int (i % j)) (tOp (rI CDivW fun i j => .int (i / j)) (tVar 0) (tC (.int 9))) (tC (.int 7)))) (gName 3))
  (tSeq (tAsg (tOp (rIx K) (tLst (tCons (tC .non) (tCons (tC (.bl true)) (tCons (tC (.str "5")) (tCons (tTupP (tCons (tC (.int 5)) tNil)) (tCons (tLst (tCons (tC (.int 5)) tNil)) tNil)))))) (tOp (rI (fun _ j => 0 < j) fun i j => .int (i % j)) (tOp (rI CDivW fun i j => .int (i / j)) (tVar 0) (tC (.int 9))) (tC (.int 5)))) (gName 4))
  (tSeq (tAsg (tOp (rIx K) (tLst (tCons (tC (.str "turned")) (tCons (tC (.str "Over")) (tCons (tC (.str "")) (tCons (tC .non) (tCons (tC (.int 5)) (tCons (tC (.str "named")) (tCons (tC (.str "flat")) (tCons (tLst (tCons (tC (.str "over")) tNil)) tNil))))))))) (tOp (rI (fun _ j => 0 < j) fun i j => .int (i % j)) (tOp (rI CDivW fun i j => .int (i / j)) (tVar 0) (tC (.int 9))) (tC (.int 8)))) (gName 5))
  (tIfS (tTest (tOp (rEqU K) (tOp (rI (fun _ j => 0 < j) fun i j => .int (i % j)) (tVar 0) (tC (.int 9))) (tC (.int 0))))
  (tDrop (tMakeS Z.Named (spI K Z.Named (RI Z.Named (F_Named_init Z))) (WE W) (tCons (tCall (spD K (RF (F_l_odd_name Z))) [] E0 (tCons (tOp (rI CDivW fun i j => .int (i / j)) (tVar 0) (tC (.int 9))) tNil)) tNil)))
  (tIfS (tTest (tOp (rEqU K) (tOp (rI (fun _ j => 0 < j) fun i j => .int (i % j)) (tVar 0) (tC (.int 9))) (tC (.int 1))))
  (tDrop (tMakeS Z.Flat (spI K Z.Flat (RI Z.Flat (F_Flat_init Z))) (WE W) (tCons (tOp (rIx K) (tLst (tCons (tC (.bl true)) (tCons (tC (.str "5")) (tCons (tTupP (tCons (tC (.int 5)) tNil)) (tCons (tLst (tCons (tC .non) tNil)) (tCons (tC (.bl false)) tNil)))))) (tOp (rI (fun _ j => 0 < j) fun i j => .int (i % j)) (tOp (rI CDivW fun i j => .int (i / j)) (tVar 0) (tC (.int 9))) (tC (.int 5)))) tNil)))
  (tIfS (tTest (tOp (rEqU K) (tOp (rI (fun _ j => 0 < j) fun i j => .int (i % j)) (tVar 0) (tC (.int 9))) (tC (.int 2))))
  (tDrop (tMakeS Z.Only (spI K Z.Only (RI Z.Only (F_Only_init Z))) (WE W) (tCons (tVar 2) (tCons (tTupP (tCons (tC (.int 1)) (tCons (tC (.int 2)) tNil))) tNil))))
  (tIfS (tTest (tOp (rEqU K) (tOp (rI (fun _ j => 0 < j) fun i j => .int (i % j)) (tVar 0) (tC (.int 9))) (tC (.int 3))))
  (tDrop (tMakeS Z.Only (spI K Z.Only (RI Z.Only (F_Only_init Z))) (WE W) (tCons (tVar 1) (tCons (tVar 3) tNil))))
  (tIfS (tTest (tOp (rEqU K) (tOp (rI (fun _ j => 0 < j) fun i j => .int (i % j)) (tVar 0) (tC (.int 9))) (tC (.int 4))))
  (tDrop (tMakeS Z.Shifted (spI K Z.Shifted (RI Z.Shifted (F_Shifted_init Z))) (WE W) (tCons (tOp (rIx K) (tLst (tCons (tVar 2) (tCons (tVar 1) tNil))) (tOp (rI (fun _ j => 0 < j) fun i j => .int (i % j)) (tOp (rI CDivW fun i j => .int (i / j)) (tVar 0) (tC (.int 100))) (tC (.int 2)))) (tCons (tVar 4) tNil))))
  (tIfS (tTest (tOp (rEqU K) (tOp (rI (fun _ j => 0 < j) fun i j => .int (i % j)) (tVar 0) (tC (.int 9))) (tC (.int 5))))
  (tDrop (tMakeS Z.Flipped (spI K Z.Flipped (RI Z.Flipped (F_Flipped_init Z))) (WE W) (tCons (tOp (rIx K) (tLst (tCons (tVar 2) (tCons (tVar 1) tNil))) (tOp (rI (fun _ j => 0 < j) fun i j => .int (i % j)) (tOp (rI CDivW fun i j => .int (i / j)) (tVar 0) (tC (.int 100))) (tC (.int 2)))) (tCons (tVar 4) tNil))))
  (tIfS (tTest (tOp (rEqU K) (tOp (rI (fun _ j => 0 < j) fun i j => .int (i % j)) (tVar 0) (tC (.int 9))) (tC (.int 6))))
  (tDrop (tMakeS Z.Joint (spI K Z.Joint (RI Z.Joint (F_Joint_init Z))) (WE W) (tCons (tVar 5) (tCons (tVar 1) (tCons (tVar 1) tNil)))))
  (tIfS (tTest (tOp (rEqU K) (tOp (rI (fun _ j => 0 < j) fun i j => .int (i % j)) (tVar 0) (tC (.int 9))) (tC (.int 7))))
  (tDrop (tMakeS Z.Joint (spI K Z.Joint (RI Z.Joint (F_Joint_init Z))) (WE W) (tCons (tC (.str "over")) (tCons (tVar 2) (tCons (tVar 1) tNil)))))
  (tDrop (tMakeS Z.Joint (spI K Z.Joint (RI Z.Joint (F_Joint_init Z))) (WE W) (tCons (tC (.str "over")) (tCons (tVar 1) (tCons (tVar 2) tNil))))))))))))))))))
theorem rd_l_wrong (K : PySem.W.Frag) (Z : Zs) (W : WX) : (b_l_wrong Z).t K W = t_l_wrong K Z W := by kernel_rfl
noncomputable def t_l_deep_tree (K : PySem.W.Frag) (Z : Zs) : TS :=
  (tSeq (tAsg (tCall (spD K (RF (F_l_tree Z))) [] E0 (tCons (tVar 0) (tCons (tVar 1) (tCons (tC (.int 1)) (tCons (tC (.int 0)) tNil))))) (gName 2))
  (tSeq (tFor (iRngW1 (tCons (tOp (rAddU K) (tC (.int 5)) (tOp (rI (fun _ j => 0 < j) fun i j => .int (i % j)) (tCall (spD K (RF (F_l_cell Z))) [] E0 (tCons (tVar 0) (tCons (tOp (rAddU K) (tVar 1) (tC (.int 2))) tNil))) (tC (.int 7)))) tNil)) (gName 3)
  (tSeq (tAsg (tCall (spD K (RF (F_l_cell Z))) [] E0 (tCons (tVar 0) (tCons (tOp (rAddU K) (tOp (rAddU K) (tVar 1) (tC (.int 3))) (tVar 3)) tNil))) (gName 4))
  (tSeq (tAsg (tCall (spD K (RF (F_l_tree Z))) [] E0 (tCons (tVar 0) (tCons (tOp (rAddU K) (tOp (rAddU K) (tVar 1) (tC (.int 20))) (tOp (rMulU K) (tC (.int 4)) (tVar 3))) (tCons (tC (.int 1)) (tCons (tCB (rMn2) (tCons (tVar 3) (tCons (tC (.int 1)) tNil))) tNil))))) (gName 5))
  (tSeq (tAsg (tOp (rI0 fun i j => .int (i - j)) (tOp (rI (fun _ j => 0 < j) fun i j => .int (i % j)) (tOp (rI CDivW fun i j => .int (i / j)) (tVar 4) (tC (.int 10))) (tC (.int 15))) (tC (.int 7))) (gName 6))
  (tSeq (tAsg (tLst (tCons (tTupP (tCons (tC (.str "only")) (tCons (tVar 2) (tCons (tCall (spD K (RF (F_l_near_span Z))) [] E0 (tCons (tOp (rI CDivW fun i j => .int (i / j)) (tVar 4) (tC (.int 10))) tNil)) tNil)))) (tCons (tTupP (tCons (tC (.str "shifted")) (tCons (tVar 2) (tCons (tVar 6) tNil)))) (tCons (tTupP (tCons (tC (.str "flipped")) (tCons (tVar 2) (tCons (tVar 6) tNil)))) tNil)))) (gName 7))
  (tSeq (tAsg (tOp (rIx K) (tCall (spD K (RF (F_l_titles Z))) [] E0 tNil) (tOp (rI (fun _ j => 0 < j) fun i j => .int (i % j)) (tOp (rI CDivW fun i j => .int (i / j)) (tVar 4) (tC (.int 10))) (tC (.int 8)))) (gName 8))
  (tAsg (tOp (rIx K) (tOp (rAddU K) (tVar 7) (tLst (tCons (tTupP (tCons (tC (.str "joint")) (tCons (tVar 8) (tCons (tVar 2) (tCons (tVar 5) tNil))))) (tCons (tTupP (tCons (tC (.str "joint")) (tCons (tVar 8) (tCons (tVar 5) (tCons (tVar 2) tNil))))) tNil)))) (tOp (rI (fun _ j => 0 < j) fun i j => .int (i % j)) (tVar 4) (tC (.int 5)))) (gName 2))))))))
  (tRet (tVar 2))))
theorem rd_l_deep_tree (K : PySem.W.Frag) (Z : Zs) (W : WX) : (b_l_deep_tree Z).t K W = t_l_deep_tree K Z := by kernel_rfl
noncomputable def t_l_twice_right (K : PySem.W.Frag) (Z : Zs) : TS :=
  (tSeq (tAsg (tMakeS Z.Joint (spI K Z.Joint (RI Z.Joint (F_Joint_init Z))) (fun _ => E0) (tCons (tC (.str "less")) (tCons (tVar 0) (tCons (tMakeS Z.Only (spI K Z.Only (RI Z.Only (F_Only_init Z))) (fun _ => E0) (tCons (tMakeS Z.Shifted (spI K Z.Shifted (RI Z.Shifted (F_Shifted_init Z))) (fun _ => E0) (tCons (tVar 0) (tCons (tC (.int 40)) tNil))) (tCons (tTupP (tCons (tC .non) (tCons (tC (.int 3)) tNil))) tNil))) tNil)))) (gName 2))
  (tSeq (tAsg (tTupP (tCons (tC (.str "joint")) (tCons (tC (.str "less")) (tCons (tVar 1) (tCons (tTupP (tCons (tC (.str "only")) (tCons (tTupP (tCons (tC (.str "shifted")) (tCons (tVar 1) (tCons (tC (.int 40)) tNil)))) (tCons (tTupP (tCons (tC .non) (tCons (tC (.int 3)) tNil))) tNil)))) tNil))))) (gName 3))
  (tSeq (tAsg (tCB (rLenU K) (tCons (tCall (spD K (RF (F_l_kinds Z))) [] E0 (tCons (tVar 1) tNil)) tNil)) (gName 4))
  (tSeq (tDrop (tBM K "list" rAppend (tCall (spD K (RF (F_names_in Z))) [] E0 (tCons (tVar 2) tNil)) (tCons (tC (.str "zz")) tNil)))
  (tSeq (tIfS (tOr (tTest (tOp (rNeU K) (tEither (tMethS Z.Named "told" (spD K (RF (F_Named_told Z))) (fun _ => E0) (tVar 2) tNil) (tEither (tMethS Z.Flat "told" (spD K (RF (F_Flat_told Z))) (fun _ => E0) (tVar 2) tNil) (tEither (tMethS Z.Only "told" (spD K (RF (F_Only_told Z))) (fun _ => E0) (tVar 2) tNil) (tEither (tMethS Z.Shifted "told" (spD K (RF (F_Shifted_told Z))) (fun _ => E0) (tVar 2) tNil) (tEither (tMethS Z.Flipped "told" (spD K (RF (F_Flipped_told Z))) (fun _ => E0) (tVar 2) tNil) (tMethS Z.Joint "told" (spD K (RF (F_Joint_told Z))) (fun _ => E0) (tVar 2) tNil)))))) (tVar 3))) (tNot (tTru K (tCall (spD K (RF (F_l_fields_right Z))) [] E0 (tCons (tVar 2) (tCons (tVar 3) tNil))))))
  (tRet (tC (.bl false)))
  tNext)
  (tRet (tAndT K (tOp (rEqU K) (tCall (spD K (RF (F_parts_in Z))) [] E0 (tCons (tVar 2) tNil)) (tOp (rAddU K) (tOp (rMulU K) (tC (.int 2)) (tVar 4)) (tC (.int 3)))) (tOp (rEqU K) (tCall (spD K (RF (F_names_in Z))) [] E0 (tCons (tVar 2) tNil)) (tSortTx K (tCall (spD K (RF (F_l_names_of Z))) [] E0 (tCons (tVar 1) tNil)))))))))))
theorem rd_l_twice_right (K : PySem.W.Frag) (Z : Zs) (W : WX) : (b_l_twice_right Z).t K W = t_l_twice_right K Z := by kernel_rfl
noncomputable def t_law (K : PySem.W.Frag) (Z : Zs) : TS :=
  (tSeq (tFor (iRngW1 (tCons (tOp (rAddU K) (tCB (rMn2) (tCons (tC (.int 63)) (tCons (tCB (rLenU K) (tCons (tVar 0) tNil)) tNil))) (tC (.int 4))) tNil)) (gName 1)
  (tSeq (tAsg (tCall (spD K (RF (F_l_cell Z))) [] E0 (tCons (tVar 0) (tCons (tOp (rAddU K) (tC (.int 5000)) (tVar 1)) tNil))) (gName 2))
  (tSeq (tAsg (tCall (spD K (RF (F_l_tree Z))) [] E0 (tCons (tVar 0) (tCons (tOp (rMulU K) (tC (.int 100)) (tVar 1)) (tCons (tC (.int 1)) (tCons (tOp (rI (fun _ j => 0 < j) fun i j => .int (i % j)) (tVar 2) (tC (.int 5))) tNil))))) (gName 3))
  (tSeq (tIfS (tTest (tOp (rEqU K) (tOp (rI (fun _ j => 0 < j) fun i j => .int (i % j)) (tOp (rI CDivW fun i j => .int (i / j)) (tVar 2) (tC (.int 5))) (tC (.int 8))) (tC (.int 3))))
  (tAsg (tCall (spD K (RF (F_l_deep_tree Z))) [] E0 (tCons (tVar 0) (tCons (tOp (rAddU K) (tC (.int 700000)) (tOp (rMulU K) (tC (.int 100)) (tVar 1))) tNil))) (gName 3))
  tNext)
  (tSeq (tAsg (tCall (spD K (RF (F_l_made Z))) [] E0 (tCons (tVar 3) tNil)) (gName 4))
  (tSeq (tIfS (tOr (tNot (tTru K (tCB (rIsU K) (tCons (tVar 4) (tCons (tC (.ref Z.Tree)) tNil))))) (tOr (tTest (tOp (rNeU K) (tEither (tMethS Z.Named "told" (spD K (RF (F_Named_told Z))) (fun _ => E0) (tVar 4) tNil) (tEither (tMethS Z.Flat "told" (spD K (RF (F_Flat_told Z))) (fun _ => E0) (tVar 4) tNil) (tEither (tMethS Z.Only "told" (spD K (RF (F_Only_told Z))) (fun _ => E0) (tVar 4) tNil) (tEither (tMethS Z.Shifted "told" (spD K (RF (F_Shifted_told Z))) (fun _ => E0) (tVar 4) tNil) (tEither (tMethS Z.Flipped "told" (spD K (RF (F_Flipped_told Z))) (fun _ => E0) (tVar 4) tNil) (tMethS Z.Joint "told" (spD K (RF (F_Joint_told Z))) (fun _ => E0) (tVar 4) tNil)))))) (tVar 3))) (tNot (tTru K (tCB (rIsU K) (tCons (tEither (tMethS Z.Named "told" (spD K (RF (F_Named_told Z))) (fun _ => E0) (tVar 4) tNil) (tEither (tMethS Z.Flat "told" (spD K (RF (F_Flat_told Z))) (fun _ => E0) (tVar 4) tNil) (tEither (tMethS Z.Only "told" (spD K (RF (F_Only_told Z))) (fun _ => E0) (tVar 4) tNil) (tEither (tMethS Z.Shifted "told" (spD K (RF (F_Shifted_told Z))) (fun _ => E0) (tVar 4) tNil) (tEither (tMethS Z.Flipped "told" (spD K (RF (F_Flipped_told Z))) (fun _ => E0) (tVar 4) tNil) (tMethS Z.Joint "told" (spD K (RF (F_Joint_told Z))) (fun _ => E0) (tVar 4) tNil)))))) (tCons (tC (.ty "tuple")) tNil)))))))
  (tRet (tC (.bl false)))
  tNext)
  (tSeq (tIfS (tNot (tTru K (tCall (spD K (RF (F_l_fields_right Z))) [] E0 (tCons (tVar 4) (tCons (tVar 3) tNil)))))
  (tRet (tC (.bl false)))
  tNext)
  (tSeq (tIfS (tOr (tTest (tOp (rNeU K) (tCall (spD K (RF (F_parts_in Z))) [] E0 (tCons (tVar 4) tNil)) (tCB (rLenU K) (tCons (tCall (spD K (RF (F_l_kinds Z))) [] E0 (tCons (tVar 3) tNil)) tNil)))) (tTest (tOp (rNeU K) (tCall (spD K (RF (F_names_in Z))) [] E0 (tCons (tVar 4) tNil)) (tSortTx K (tCall (spD K (RF (F_l_names_of Z))) [] E0 (tCons (tVar 3) tNil))))))
  (tRet (tC (.bl false)))
  tNext)
  (tIfS (tAnd (tTest (tOp (rNeU K) (tOp (rI (fun _ j => 0 < j) fun i j => .int (i % j)) (tOp (rI CDivW fun i j => .int (i / j)) (tVar 2) (tC (.int 5))) (tC (.int 8))) (tC (.int 3)))) (tAnd (tTest (tOp (rI0 fun i j => .bl (decide (i < j))) (tCB (rLenU K) (tCons (tCall (spD K (RF (F_l_kinds Z))) [] E0 (tCons (tVar 3) tNil)) tNil)) (tC (.int 28)))) (tNot (tTru K (tCall (spD K (RF (F_l_twice_right Z))) [] E0 (tCons (tVar 4) (tCons (tVar 3) tNil)))))))
  (tRet (tC (.bl false)))
  tNext)))))))))
  (tSeq (tFor (iRngW1 (tCons (tC (.int 30)) tNil)) (gName 1)
  (tSeq (tAsg (tCall (spD K (RF (F_l_cell Z))) [] E0 (tCons (tVar 0) (tCons (tOp (rAddU K) (tC (.int 6000)) (tVar 1)) tNil))) (gName 2))
  (tSeq (tAsg (tC .non) (gName 5))
  (tSeq (tTryK K (.ref Z.FarError) 8 5 fun W =>
  (tDrop (tCallS (spD K (RF (F_l_wrong Z))) (WE W) (tCons (tVar 2) tNil))))
  (tSeq (tIfS (tOr (tTest (tOp (rIsN) (tVar 5) (tC .non))) (tTest (tOp (rNeU K) (tCall (spD K (RF (F_l_word_of Z))) [] E0 (tCons (tVar 5) tNil)) (tC (.str "NoTree")))))
  (tRet (tC (.bl false)))
  tNext)
  (tSeq (tAsg (tOp (rIx K) (tOp (rAddU K) (tCall (spD K (RF (F_l_names Z))) [] E0 tNil) (tLst (tCons (tC (.str "zebra")) (tCons (tC (.str "overs")) (tCons (tC (.str "z")) (tCons (tC (.str "abcdefgh")) (tCons (tCall (spD K (RF (F_l_odd_name Z))) [] E0 (tCons (tOp (rI CDivW fun i j => .int (i / j)) (tVar 2) (tC (.int 11))) tNil)) tNil))))))) (tOp (rI (fun _ j => 0 < j) fun i j => .int (i % j)) (tOp (rI CDivW fun i j => .int (i / j)) (tVar 2) (tC (.int 7))) (tC (.int 11)))) (gName 6))
  (tSeq (tAsg (tCall (spD K (RF (F_is_name Z))) [] E0 (tCons (tVar 6) tNil)) (gName 7))
  (tIfS (tOr (tNot (tTru K (tCB (rIsU K) (tCons (tVar 7) (tCons (tC (.ty "bool")) tNil))))) (tTest (tOp (rNeU K) (tVar 7) (tCall (spD K (RF (F_l_is_name Z))) [] E0 (tCons (tVar 6) tNil)))))
  (tRet (tC (.bl false)))
  tNext))))))))
  (tRet (tC (.bl true)))))
theorem rd_law (K : PySem.W.Frag) (Z : Zs) (W : WX) : (b_law Z).t K W = t_law K Z := by kernel_rfl
end Far
namespace Far
open PySem L2
local macro_rules | `(tactic| walk_at "dd") => `(tactic| first | assumption | omega | (simp; done) | (simp only [List.length_map, List.length_append, List.length_cons, List.length_nil, List.length_take, List.length_drop, List.length_reverse, List.length_range, List.length_replicate]; omega))
abbrev isPl (x : D) : Bool := isTy x "int" && !isTy x "bool"
abbrev dE : Option Int → D
  | none => .non
  | some i => .int i
abbrev dS (s : Option Int × Option Int) : D := .tup [dE s.1, dE s.2]
abbrev isE (x : D) : Bool := isNon x || isPl x
def leE : D → D → Bool
  | .int i, .int j => decide (i ≤ j)
  | _, _ => true
def isSp : D → Bool
  | .tup [a, b] => isE a && isE b && leE a b
  | _ => false
def knownAll : D → Bool
  | .tup xs => xs.all known
  | .lst xs => xs.all known
  | x => known x
abbrev dO : Option (Option Int × Option Int) → D
  | none => .non
  | some s => dS s
def cell (ns : List Int) (k : Int) : Int :=
  let c := match ns with | [] => 7919 * k + 11 | _ => (ns.getD (k % ns.length).toNat 0 * 48271 + 104729 * k) + k / ns.length * 7919
  let m := c % 2147483647
  let m := m * m % 2147483629
  (m * m + 69621 * m + k) % 2147483587
theorem cell_pos (ns : List Int) (k : Int) : 0 ≤ cell ns k ∧ cell ns k < 2147483587 := by
  unfold cell
  exact ⟨Int.emod_nonneg _ (by decide), Int.emod_lt_of_pos _ (by decide)⟩
def farS (c : Int) (m : Int) : Nat → Int
  | 0 => 1
  | n + 1 => farS c m n * (c + n) % m
def placeL (c : Int) : List Int := [c / 6 % 21 - 10, c / 6 % 21 - 10, c / 6 % 201 - 100, farS c (10 ^ 30) 4, -farS c (10 ^ 30) 4, 0]
def place (c : Int) : Int := (placeL c).getD (c % 6).toNat 0
abbrev vsD (ring : List (Option Int)) : List D := ring.map dE
theorem isE_dE (o : Option Int) : isE (dE o) = true := by cases o <;> simp [isNon, isTy_int_int, isTy_int_bool]
theorem known_dE (o : Option Int) : known (dE o) = true := by cases o <;> rfl
theorem len_vsD (ring : List (Option Int)) : (vsD ring).length = ring.length := List.length_map ..
theorem pur_dE (o : Option Int) : pur (dE o) = true := by cases o <;> rfl
@[simp] theorem ks_dE (o : Option Int) : known (dE o) = true := known_dE o
@[simp] theorem isNon_dE (o : Option Int) : isNon (dE o) = o.isNone := by cases o <;> rfl
@[simp] theorem length_vsD (r : List (Option Int)) : (vsD r).length = r.length := List.length_map ..
theorem e60 : (10 : Int) ^ 60 = 1000000000000000000000000000000000000000000000000000000000000 := by decide
theorem atI0 {α : Type} {a : α} {l : List α} : L2.atI (a :: l) 0 = some a := by
  have := atI_getD (xs := a :: l) (i := 0) (d := a) (by decide) (by simp only [List.length_cons]; omega)
  rw [this]; rfl
theorem atI1 {α : Type} {a b : α} {l : List α} : L2.atI (a :: b :: l) 1 = some b := by
  have := atI_getD (xs := a :: b :: l) (i := 1) (d := a) (by decide) (by simp only [List.length_cons]; omega)
  rw [this]; rfl
@[simp] theorem isNon_exc {C : Addr} {fs : List (Str × D)} : isNon (.exc C fs) = false := (rfl)
@[simp] theorem isNon_ins {C : Addr} {fs : List (Str × D)} : isNon (.ins C fs) = false := (rfl)
@[simp] theorem isNon_int {i : Int} : isNon (.int i) = false := (rfl)
@[simp] theorem isNon_tup {xs : List D} : isNon (.tup xs) = false := (rfl)
@[simp] theorem isNon_lst {xs : List D} : isNon (.lst xs) = false := (rfl)
@[simp] theorem isNon_str {z : Str} : isNon (.str z) = false := (rfl)
@[simp] theorem isNon_non : isNon .non = true := (rfl)
@[simp] theorem isNon_bl {b : Bool} : isNon (.bl b) = false := (rfl)
@[simp] theorem isNon_dK {k : List (Key × D)} : isNon (.dK k) = false := (rfl)
@[simp] theorem isNon_dP {k : List (Key × D)} : isNon (.dP k) = false := (rfl)
@[simp] theorem known_dP {k : List (Key × D)} : known (.dP k) = true := (rfl)
@[simp] theorem flatD_dE (o : Option Int) : flatD (dE o) = true := by cases o <;> rfl
@[simp] theorem sdp1 {k : List (Key × D)} : isTy (.dP k) "int" = false := isTy_dP_int
@[simp] theorem sdk1 {k : List (Key × D)} : isTy (.dK k) "int" = false := isTy_dK_int
@[simp] theorem sdp2 {k : List (Key × D)} : isTy (.dP k) "bool" = false := isTy_dP_bool
@[simp] theorem sdk2 {k : List (Key × D)} : isTy (.dK k) "bool" = false := isTy_dK_bool
@[simp] theorem sdp3 {k : List (Key × D)} : isTy (.dP k) "tuple" = false := isTy_dP_tuple
@[simp] theorem sdk3 {k : List (Key × D)} : isTy (.dK k) "tuple" = false := isTy_dK_tuple
@[simp] theorem sdp4 {k : List (Key × D)} : isTy (.dP k) "list" = false := isTy_dP_list
@[simp] theorem sdk4 {k : List (Key × D)} : isTy (.dK k) "list" = false := isTy_dK_list
@[simp] theorem sdp5 {k : List (Key × D)} : isTy (.dP k) "str" = false := isTy_dP_str
@[simp] theorem sdk5 {k : List (Key × D)} : isTy (.dK k) "str" = false := isTy_dK_str
theorem atI_ex {α : Type} (P : α → Prop) {xs : List α} {i : Int} (h0 : 0 ≤ i) (h1 : i < xs.length) (h : ∀ x ∈ xs, P x) : ∃ x, L2.atI xs i = some x ∧ P x := by
  have hi : i.toNat < xs.length := by omega
  refine ⟨xs[i.toNat], ?_, h _ (List.getElem_mem hi)⟩
  rw [atI_getD (d := xs[i.toNat]) h0 h1, List.getD_eq_getElem?_getD, List.getElem?_eq_getElem hi]; rfl
theorem atI_exE {xs : List (Option Int)} {ys : List D} {i : Int} (e : ys = vsD xs) (h0 : 0 ≤ i) (h1 : i < xs.length) : ∃ v : Option Int, L2.atI ys i = some (dE v) := by
  subst e
  obtain ⟨x, h, v, rfl⟩ := atI_ex (fun x => ∃ v, x = dE v) (xs := vsD xs) h0 (by rw [len_vsD]; exact h1) (fun x hx => by obtain ⟨v, _, rfl⟩ := List.mem_map.mp hx; exact ⟨v, rfl⟩)
  exact ⟨v, h⟩
theorem atI_exI (P : Int → Prop) {xs : List Int} {ys : List D} {i : Int} (e : ys = xs.map D.int) (h0 : 0 ≤ i) (h1 : i < xs.length) (h : ∀ x ∈ xs, P x) : ∃ v : Int, L2.atI ys i = some (.int v) ∧ P v := by
  subst e
  obtain ⟨x, h, v, rfl, hp⟩ := atI_ex (fun x => ∃ v, x = D.int v ∧ P v) (xs := xs.map D.int) h0 (by rw [List.length_map]; exact h1) (fun x hx => by obtain ⟨v, hv, rfl⟩ := List.mem_map.mp hx; exact ⟨v, rfl, h v hv⟩)
  exact ⟨v, h, hp⟩
theorem atI2 {α : Type} {a b c : α} {l : List α} : L2.atI (a :: b :: c :: l) 2 = some c := by
  have := atI_getD (xs := a :: b :: c :: l) (i := 2) (d := a) (by decide) (by simp only [List.length_cons]; omega)
  rw [this]; rfl
theorem atI3 {α : Type} {a b c d : α} {l : List α} : L2.atI (a :: b :: c :: d :: l) 3 = some d := by
  have := atI_getD (xs := a :: b :: c :: d :: l) (i := 3) (d := a) (by decide) (by simp only [List.length_cons]; omega)
  rw [this]; rfl
theorem atI_exM {xs : List (Option Int)} {ys : List D} {i : Int} (e : ys = vsD xs) (h0 : 0 ≤ i) (h1 : i < xs.length) : ∃ v ∈ xs, L2.atI ys i = some (dE v) := by
  subst e
  obtain ⟨x, h, v, hv, rfl⟩ := atI_ex (fun x => ∃ v ∈ xs, x = dE v) (xs := vsD xs) h0 (by rw [len_vsD]; exact h1) (fun x hx => by obtain ⟨v, hv, rfl⟩ := List.mem_map.mp hx; exact ⟨v, hv, rfl⟩)
  exact ⟨v, hv, h⟩
theorem log2_le {n a : Nat} (h : n < 2 ^ a) : n.log2 ≤ a := by
  by_cases z : n = 0
  · subst z; simp
  · exact Nat.le_of_lt ((Nat.log2_lt z).mpr h)
theorem mul_bits {i j : Int} (a b : Nat) (h1 : i.natAbs < 2 ^ a) (h2 : j.natAbs < 2 ^ b) (h : a + b < 1000000) : mulF (.int i) (.int j) = some (.d (.int (i * j))) := mulF_int (.inr (by
  have x := log2_le h1
  have y := log2_le h2
  unfold CMulW; omega))
/-- values of no more than 200 bits -/
def SmV (v : Option Int) : Prop := ∀ i, v = some i → i.natAbs < 2 ^ 200
section
variable {g : List S → D → Option (List S)} {body : List S → Fl} {vs : List Nat} {δ δ1 δ2 : List S} {y : D} {ys : List D} {s : S}
theorem forF_nx (h1 : g δ y = some δ1) (h2 : body δ1 = .nx δ2) : forF g body vs (y :: ys) δ = forF g body vs ys (wpF vs δ2) := by rw [forF, h1]; simp only [h2]
theorem forF_rt (h1 : g δ y = some δ1) (h2 : body δ1 = .rt s) : forF g body vs (y :: ys) δ = .rt s := by rw [forF, h1]; simp only [h2]
/-- a for by what holds of the slots ahead of each item; R of what it ends in -/
theorem forF_pred {R : Fl → Prop} (P : Nat → List S → Prop) (h : ∀ i y δ, ys[i]? = some y → P i δ → ∃ δ1, g δ y = some δ1 ∧ ((∃ δ2, (body δ1 = .nx δ2 ∨ body δ1 = .ct δ2) ∧ P (i + 1) (wpF vs δ2)) ∨ (∃ s, body δ1 = .rt s ∧ R (.rt s)) ∨ (∃ δ2, body δ1 = .bk δ2 ∧ R (.nx δ2)))) (he : ∀ δ, P ys.length δ → R (.nx δ)) (h0 : P 0 δ) : R (forF g body vs ys δ) := by
  have main : ∀ (n : Nat) (zs : List D) (δ : List S), zs = ys.drop n → n ≤ ys.length → P n δ → R (forF g body vs zs δ) := by
    intro n zs
    induction zs generalizing n with
    | nil =>
      intro δ e hn p
      have : n = ys.length := by
        have := congrArg List.length e
        rw [List.length_drop, List.length_nil] at this; omega
      subst this; exact he δ p
    | cons z r ih =>
      intro δ e hn p
      have hlt : n < ys.length := by
        have := congrArg List.length e
        rw [List.length_drop, List.length_cons] at this; omega
      rw [List.drop_eq_getElem_cons hlt] at e
      obtain ⟨rfl, er⟩ := List.cons.inj e
      obtain ⟨δ1, h1, h2⟩ := h n _ δ (List.getElem?_eq_getElem hlt) p
      unfold forF
      rw [h1]
      rcases h2 with ⟨δ2, h2, h3⟩ | ⟨s, h2, h3⟩ | ⟨δ2, h2, h3⟩
      · rcases h2 with h2 | h2 <;> (simp only [h2]; exact ih (n + 1) _ er hlt h3)
      · simp only [h2]; exact h3
      · simp only [h2]; exact h3
  exact main 0 ys δ rfl (Nat.zero_le _) h0
end
def rlC (Z : Zs) : Nat → Addr
  | 0 => Z.Over | 1 => Z.Where | 2 => Z.Without | 3 => Z.Sum | 4 => Z.Less | 5 => Z.Least | 6 => Z.Greatest | _ => Z.Same
def rlD (Z : Zs) (k : Nat) (_ : Nat) : D := .ins (rlC Z k) []
def wordD : Nat → D
  | 0 => .str "over" | 1 => .str "where" | 2 => .str "without" | 3 => .str "sum" | 4 => .str "less" | 5 => .str "least" | 6 => .str "greatest" | _ => .str "same"
theorem k8 {k : Nat} (h : k < 8) : k = 0 ∨ k = 1 ∨ k = 2 ∨ k = 3 ∨ k = 4 ∨ k = 5 ∨ k = 6 ∨ k = 7 := by omega
section
open _root_.SX _root_.PySem.NumText
abbrev tx (l : List Nat) : Str := ⟨l.toArray⟩
/-- a sign in a text of signs -/
theorem inS1 (a : List Nat) (c : Nat) : (!(Builtin.Str.occurrences (tx a) (tx [c]) 0 (tx a).length 1).isEmpty) = decide (c ∈ a) := in_one a c
end
section
abbrev Sp2 := Option Int × Option Int
inductive Tr where
  | named (s : Str) | flat (v : Option Int) | only (t : Tr) (s : Sp2) | shifted (t : Tr) (n : Int) | flipped (t : Tr) (n : Int) | joint (w : Str) (a b : Tr)
/-- a tree as it is told -/
def toldT : Tr → D
  | .named s => .tup [.str "named", .str s]
  | .flat v => .tup [.str "flat", dE v]
  | .only t s => .tup [.str "only", toldT t, dS s]
  | .shifted t n => .tup [.str "shifted", toldT t, .int n]
  | .flipped t n => .tup [.str "flipped", toldT t, .int n]
  | .joint w a b => .tup [.str "joint", .str w, toldT a, toldT b]
/-- .. as an object -/
def objT (Z : Zs) : Tr → D
  | .named s => .ins Z.Named [("name", .str s)]
  | .flat v => .ins Z.Flat [("value", dE v)]
  | .only t s => .ins Z.Only [("tree", objT Z t), ("span", dS s)]
  | .shifted t n => .ins Z.Shifted [("tree", objT Z t), ("by", .int n)]
  | .flipped t n => .ins Z.Flipped [("tree", objT Z t), ("about", .int n)]
  | .joint w a b => .ins Z.Joint [("title", .str w), ("one", objT Z a), ("other", objT Z b)]
/-- levels below the first -/
def dpT : Tr → Nat
  | .named _ => 0 | .flat _ => 0
  | .only t _ => dpT t + 1 | .shifted t _ => dpT t + 1 | .flipped t _ => dpT t + 1
  | .joint _ a b => max (dpT a) (dpT b) + 1
/-- its parts, how many -/
def szT : Tr → Nat
  | .named _ => 1 | .flat _ => 1
  | .only t _ => szT t + 1 | .shifted t _ => szT t + 1 | .flipped t _ => szT t + 1
  | .joint _ a b => szT a + szT b + 1
/-- its parts, the tree itself first -/
def partsT : Tr → List Tr
  | .named s => [.named s] | .flat v => [.flat v]
  | .only t s => .only t s :: partsT t | .shifted t n => .shifted t n :: partsT t | .flipped t n => .flipped t n :: partsT t
  | .joint w a b => .joint w a b :: (partsT a ++ partsT b)
def limbsT : Tr → List Tr
  | .named _ => [] | .flat _ => [] | .only t _ => [t] | .shifted t _ => [t] | .flipped t _ => [t] | .joint _ a b => [a, b]
def ownN : Tr → List Str
  | .named s => [s] | _ => []
def namesT : Tr → List Str
  | .named s => [s] | .flat _ => []
  | .only t _ => namesT t | .shifted t _ => namesT t | .flipped t _ => namesT t
  | .joint _ a b => namesT a ++ namesT b
theorem partsT_len : ∀ t : Tr, (partsT t).length = szT t
  | .named _ => rfl | .flat _ => rfl
  | .only t _ => by unfold partsT szT; rw [List.length_cons, partsT_len t]
  | .shifted t _ => by unfold partsT szT; rw [List.length_cons, partsT_len t]
  | .flipped t _ => by unfold partsT szT; rw [List.length_cons, partsT_len t]
  | .joint _ a b => by unfold partsT szT; rw [List.length_cons, List.length_append, partsT_len a, partsT_len b]
theorem parts_names : ∀ t : Tr, ((partsT t).map ownN).flatten = namesT t
  | .named _ => rfl | .flat _ => rfl
  | .only t _ => by unfold partsT namesT; rw [List.map_cons, List.flatten_cons, parts_names t]; rfl
  | .shifted t _ => by unfold partsT namesT; rw [List.map_cons, List.flatten_cons, parts_names t]; rfl
  | .flipped t _ => by unfold partsT namesT; rw [List.map_cons, List.flatten_cons, parts_names t]; rfl
  | .joint _ a b => by unfold partsT namesT; rw [List.map_cons, List.flatten_cons, List.map_append, List.flatten_append, parts_names a, parts_names b]; rfl
theorem namesT_len : ∀ t : Tr, (namesT t).length ≤ szT t
  | .named _ => Nat.le_refl _ | .flat _ => Nat.zero_le _
  | .only t _ => by have := namesT_len t; unfold namesT szT; omega
  | .shifted t _ => by have := namesT_len t; unfold namesT szT; omega
  | .flipped t _ => by have := namesT_len t; unfold namesT szT; omega
  | .joint _ a b => by have := namesT_len a; have := namesT_len b; unfold namesT szT; rw [List.length_append]; omega
def nameL : List Str := ["a", "b", "row", "abcdefgh", "turned", "named"]
def titleL : List Str := ["over", "where", "without", "sum", "less", "least", "greatest", "same"]
def okT : Tr → Prop
  | .named s => s ∈ nameL
  | .flat _ => True
  | .only t s => okT t ∧ ∀ a b, s.1 = some a → s.2 = some b → a ≤ b
  | .shifted t _ => okT t
  | .flipped t _ => okT t
  | .joint w a b => w ∈ titleL ∧ okT a ∧ okT b
theorem objT_named {Z : Zs} {s : Str} : objT Z (.named s) = .ins Z.Named [("name", .str s)] := by rfl
theorem objT_flat {Z : Zs} {v : Option Int} : objT Z (.flat v) = .ins Z.Flat [("value", dE v)] := by rfl
theorem objT_only {Z : Zs} {t : Tr} {s : Sp2} : objT Z (.only t s) = .ins Z.Only [("tree", objT Z t), ("span", dS s)] := by rfl
theorem objT_shifted {Z : Zs} {t : Tr} {n : Int} : objT Z (.shifted t n) = .ins Z.Shifted [("tree", objT Z t), ("by", .int n)] := by rfl
theorem objT_flipped {Z : Zs} {t : Tr} {n : Int} : objT Z (.flipped t n) = .ins Z.Flipped [("tree", objT Z t), ("about", .int n)] := by rfl
theorem objT_joint {Z : Zs} {w : Str} {a b : Tr} : objT Z (.joint w a b) = .ins Z.Joint [("title", .str w), ("one", objT Z a), ("other", objT Z b)] := by rfl
theorem toldT_named {s : Str} : toldT (.named s) = .tup [.str "named", .str s] := by rfl
theorem toldT_flat {v : Option Int} : toldT (.flat v) = .tup [.str "flat", dE v] := by rfl
theorem toldT_only {t : Tr} {s : Sp2} : toldT (.only t s) = .tup [.str "only", toldT t, dS s] := by rfl
theorem toldT_shifted {t : Tr} {n : Int} : toldT (.shifted t n) = .tup [.str "shifted", toldT t, .int n] := by rfl
theorem toldT_flipped {t : Tr} {n : Int} : toldT (.flipped t n) = .tup [.str "flipped", toldT t, .int n] := by rfl
theorem toldT_joint {w : Str} {a b : Tr} : toldT (.joint w a b) = .tup [.str "joint", .str w, toldT a, toldT b] := by rfl
theorem inS_ws {s : Str} {ws : List Str} {L : D} (hL : L = .tup (ws.map D.str) ∨ L = .lst (ws.map D.str)) : inS (.str s) L = some (decide (s ∈ ws)) := by
  have h : ∀ ws : List Str, (ws.map D.str).all flatD = true ∧ ((ws.map D.str).any fun y => eqF y (.str s)) = decide (s ∈ ws) := by
    intro ws
    induction ws with
    | nil => simp
    | cons w r ih =>
      refine ⟨by simp [flatD] at ih ⊢, ?_⟩
      rw [List.map_cons, List.any_cons, ih.2]
      have e : eqF (.str w) (.str s) = decide (s = w) := by
        have e1 : eqF (.str w) (.str s) = decide (w = s) := rfl
        rw [e1]
        exact decide_eq_decide.mpr ⟨Eq.symm, Eq.symm⟩
      rw [e]
      by_cases a : s = w <;> simp [a]
  have h1 := (h ws).1
  have h2 := (h ws).2
  rcases hL with rfl | rfl
  · have e : inS (.str s) (.tup (ws.map D.str)) = inF (.str s) (.tup (ws.map D.str)) := rfl
    rw [e]
    unfold inF
    simp only [h1, h2, flatD, and_self, if_true]
  · have e : inS (.str s) (.lst (ws.map D.str)) = inF (.str s) (.lst (ws.map D.str)) := rfl
    rw [e]
    unfold inF
    simp only [h1, h2, flatD, and_self, if_true]
def keptL : List Str := ["flat", "only", "shifted", "flipped"]
def keptB (s : Str) : Bool := decide (s ∈ keptL) || decide (s ∈ titleL)
def smallL : List Nat := [97, 98, 99, 100, 101, 102, 103, 104, 105, 106, 107, 108, 109, 110, 111, 112, 113, 114, 115, 116, 117, 118, 119, 120, 121, 122]
def nameB (s : Str) : Bool := decide (1 ≤ s.length ∧ s.length ≤ 8) && (s.cps.toList.all fun c => decide (c ∈ smallL)) && !keptB s
theorem nameL_ok : ∀ s ∈ nameL, nameB s = true := by decide
end
section
theorem cmp_self {x : D} (p : pur x = true) (d : (pd x).depth ≤ 64) : cmpD x x = true := by
  unfold cmpD; rw [p, decide_eq_true d]; rfl
theorem ne_self {x : D} (p : pur x = true) (d : (pd x).depth ≤ 64) (hx : ∀ zs, x ≠ .scr zs) : neF2 x x = some (.d (.bl false)) := by
  have e : eqD x x = true := eqv_self p
  rw [neF2_of (cmp_self p d) hx, e]; rfl
theorem eq_self2 {x : D} (p : pur x = true) (d : (pd x).depth ≤ 64) (hx : ∀ zs, x ≠ .scr zs) : eqF2 x x = some (.d (.bl true)) := by
  have e : eqD x x = true := eqv_self p
  rw [eqF2_of (cmp_self p d) hx, e]
theorem pur_dS' (s : Sp2) : pur (dS s) = true := by
  obtain ⟨a, b⟩ := s
  cases a <;> cases b <;> rfl
theorem dep_dE (v : Option Int) : (pd (dE v)).depth = 0 := by cases v <;> simp [pd, PyData.depth]
theorem dep_dS' (s : Sp2) : (pd (dS s)).depth = 1 := by
  obtain ⟨a, b⟩ := s
  cases a <;> cases b <;> simp [pd, pdL, PyData.depth, PyData.depthAll]
theorem name_ok : ∀ s ∈ nameL, PyData.strOk s = true := by decide +kernel
theorem title_ok : ∀ s ∈ titleL, PyData.strOk s = true := by decide +kernel
theorem word_ok : PyData.strOk "named" = true ∧ PyData.strOk "flat" = true ∧ PyData.strOk "only" = true ∧ PyData.strOk "shifted" = true ∧ PyData.strOk "flipped" = true ∧ PyData.strOk "joint" = true := by decide +kernel
theorem pur_toldT : ∀ t : Tr, okT t → pur (toldT t) = true
  | .named s, h => by rw [toldT_named]; simp only [pur, purL, name_ok s h, Bool.and_true, word_ok]
  | .flat v, h => by rw [toldT_flat]; simp only [pur, purL, pur_dE, Bool.and_true, word_ok]
  | .only t s, h => by rw [toldT_only]; simp only [pur, purL, pur_toldT t h.1, pur_dE, Bool.and_true, word_ok]
  | .shifted t n, h => by rw [toldT_shifted]; simp only [pur, purL, pur_toldT t h, Bool.and_true, word_ok]
  | .flipped t n, h => by rw [toldT_flipped]; simp only [pur, purL, pur_toldT t h, Bool.and_true, word_ok]
  | .joint w a b, h => by rw [toldT_joint]; simp only [pur, purL, pur_toldT a h.2.1, pur_toldT b h.2.2, title_ok w h.1, Bool.and_true, word_ok]
theorem dep_toldT : ∀ t : Tr, (pd (toldT t)).depth ≤ 2 + dpT t
  | .named s => by rw [toldT_named]; simp only [pd, pdL, PyData.depth, PyData.depthAll, dpT]; omega
  | .flat v => by rw [toldT_flat]; simp only [pd, pdL, PyData.depth, PyData.depthAll, dep_dE, dpT]; omega
  | .only t s => by
    have := dep_toldT t
    have := dep_dS' s
    rw [toldT_only]
    generalize dS s = x at *
    simp only [pd, pdL, PyData.depth, PyData.depthAll, dpT]; omega
  | .shifted t n => by have := dep_toldT t; rw [toldT_shifted]; simp only [pd, pdL, PyData.depth, PyData.depthAll, dpT]; omega
  | .flipped t n => by have := dep_toldT t; rw [toldT_flipped]; simp only [pd, pdL, PyData.depth, PyData.depthAll, dpT]; omega
  | .joint w a b => by have := dep_toldT a; have := dep_toldT b; rw [toldT_joint]; simp only [pd, pdL, PyData.depth, PyData.depthAll, dpT]; omega
theorem ne_toldT {t : Tr} (h : okT t) (hd : dpT t ≤ 20) : neF2 (toldT t) (toldT t) = some (.d (.bl false)) :=
  ne_self (pur_toldT t h) (by have := dep_toldT t; omega) fun zs => by cases t <;> (intro z; cases z)
theorem purL_strs : ∀ {ss : List Str}, (∀ s ∈ ss, PyData.strOk s = true) → purL (ss.map D.str) = true
  | [], _ => rfl
  | s :: r, h => by
    rw [List.map_cons]
    unfold purL pur
    rw [h s (List.mem_cons_self ..), purL_strs fun x hx => h x (List.mem_cons_of_mem _ hx)]; rfl
theorem dep_strs : ∀ ss : List Str, PyData.depthAll (pdL (ss.map D.str)) = 0
  | [] => by simp [pdL, PyData.depthAll]
  | s :: r => by rw [List.map_cons]; unfold pdL; simp [PyData.depthAll, pd, PyData.depth, dep_strs r]
theorem eq_strs {ss : List Str} (h : ∀ s ∈ ss, PyData.strOk s = true) : neF2 (.lst (ss.map D.str)) (.lst (ss.map D.str)) = some (.d (.bl false)) ∧ eqF2 (.lst (ss.map D.str)) (.lst (ss.map D.str)) = some (.d (.bl true)) := by
  have p : pur (.lst (ss.map D.str)) = true := purL_strs h
  have d : (pd (.lst (ss.map D.str))).depth ≤ 64 := by
    unfold pd; simp only [PyData.depth, dep_strs]; omega
  exact ⟨ne_self p d (fun zs z => by cases z), eq_self2 p d (fun zs z => by cases z)⟩
theorem sortT_mem {ss : List Str} {s : Str} (h : s ∈ sortT ss) : s ∈ ss := by
  unfold sortT at h
  split at h
  · rename_i e
    exact (e.choose_spec.2.2 s).mp h
  · cases h
theorem nodup_len : ∀ {a b : List Str}, a.Nodup → (∀ s ∈ a, s ∈ b) → a.length ≤ b.length
  | [], _, _, _ => Nat.zero_le _
  | x :: a, b, hn, hs => by
    have hx : x ∈ b := hs x (List.mem_cons_self ..)
    have h1 := nodup_len (a := a) (b := b.erase x) (List.nodup_cons.mp hn).2 fun s hm => by
      have hne : s ≠ x := fun e => (List.nodup_cons.mp hn).1 (e ▸ hm)
      exact (List.mem_erase_of_ne hne).mpr (hs s (List.mem_cons_of_mem _ hm))
    have h2 := List.length_erase_of_mem hx
    have h3 : 1 ≤ b.length := List.length_pos_of_mem hx
    rw [List.length_cons]; omega
theorem sortT_len (ss : List Str) : (sortT ss).length ≤ ss.length := by
  unfold sortT
  split
  · rename_i e
    exact nodup_len e.choose_spec.2.1 fun s hs => (e.choose_spec.2.2 s).mp hs
  · exact Nat.zero_le _
theorem namesT_ok : ∀ {t : Tr}, okT t → ∀ s ∈ namesT t, s ∈ nameL
  | .named s, h, x, hx => by unfold namesT at hx; rw [List.mem_singleton.mp hx]; exact h
  | .flat v, h, x, hx => by unfold namesT at hx; cases hx
  | .only t s, h, x, hx => by unfold namesT at hx; exact namesT_ok h.1 x hx
  | .shifted t s, h, x, hx => by unfold namesT at hx; exact namesT_ok (t := t) h x hx
  | .flipped t s, h, x, hx => by unfold namesT at hx; exact namesT_ok (t := t) h x hx
  | .joint w a b, h, x, hx => by
    unfold namesT at hx
    rcases List.mem_append.mp hx with z | z
    · exact namesT_ok h.2.1 x z
    · exact namesT_ok h.2.2 x z
theorem small_in (c : Nat) : inS (.str ⟨#[c]⟩) (.str "abcdefghijklmnopqrstuvwxyz") = some (decide (c ∈ smallL)) := by
  have h := inS1 smallL c
  have e : inS (.str ⟨#[c]⟩) (.str "abcdefghijklmnopqrstuvwxyz") = some (!(Builtin.Str.occurrences (tx smallL) (tx [c]) 0 (tx smallL).length 1).isEmpty) := rfl
  rw [e, h]
theorem eq_signs {cs : List Nat} (h : ∀ c ∈ cs, PyData.strOk ⟨#[c]⟩ = true) : eqF2 (.lst (cs.map fun c => D.str ⟨#[c]⟩)) (.lst []) = some (.d (.bl cs.isEmpty)) := by
  have e : (cs.map fun c => D.str ⟨#[c]⟩) = (cs.map fun c => (⟨#[c]⟩ : Str)).map D.str := by rw [List.map_map]; rfl
  have p : pur (.lst (cs.map fun c => D.str ⟨#[c]⟩)) = true := by
    rw [e]
    exact purL_strs fun s hs => by obtain ⟨c, hc, rfl⟩ := List.mem_map.mp hs; exact h c hc
  have d : (pd (.lst (cs.map fun c => D.str ⟨#[c]⟩))).depth ≤ 64 := by
    rw [e]
    unfold pd; simp only [PyData.depth, dep_strs]; omega
  have c : cmpD (.lst (cs.map fun c => D.str ⟨#[c]⟩)) (.lst []) = true := by
    unfold cmpD; rw [p, decide_eq_true d]; rfl
  have q : eqD (.lst (cs.map fun c => D.str ⟨#[c]⟩)) (.lst []) = cs.isEmpty := by
    show PyData.eqv (pd _) (pd _) = _
    cases cs <;> simp [pd, pdL, PyData.eqv, PyData.eqvAll]
  rw [eqF2_of c (fun zs z => by cases z), q]
theorem told_tup (t : Tr) : ∃ (w : Str) (x : D) (r : List D), toldT t = .tup (.str w :: x :: r) ∧ r.length ≤ 2 := by
  cases t
  · exact ⟨_, _, _, toldT_named, by simp⟩
  · exact ⟨_, _, _, toldT_flat, by simp⟩
  · exact ⟨_, _, _, toldT_only, by simp⟩
  · exact ⟨_, _, _, toldT_shifted, by simp⟩
  · exact ⟨_, _, _, toldT_flipped, by simp⟩
  · exact ⟨_, _, _, toldT_joint, by simp⟩
def LisR (r : M S) (L : List D) : Prop := r = .ok (.d (.lst L)) ∨ r = .ok (.own L)
theorem str_at {ws : List Str} {i : Int} (h0 : 0 ≤ i) (h1 : i < ws.length) : ∃ w ∈ ws, L2.atI (ws.map D.str) i = some (.str w) := by
  obtain ⟨x, hx, w, hw, hw2⟩ := atI_ex (fun x : D => ∃ w ∈ ws, x = .str w) (xs := ws.map D.str) h0 (by rw [List.length_map]; exact h1) (fun x hx => by
    obtain ⟨w, hw, rfl⟩ := List.mem_map.mp hx
    exact ⟨w, hw, rfl⟩)
  exact ⟨w, hw, by rw [hx, hw2]⟩
end
section
variable {Z : Zs}
theorem F_Over_rule_word_v {s : D} : F_Over_rule_word Z [s] = .ok (.d (wordD 0)) := by
  simp [F_Over_rule_word_eq, b_Over_rule_word, wordD]

end
section
variable {Z : Zs}
theorem F_Where_rule_word_v {s : D} : F_Where_rule_word Z [s] = .ok (.d (wordD 1)) := by
  simp [F_Where_rule_word_eq, b_Where_rule_word, wordD]

end
section
variable {Z : Zs}
theorem F_Without_rule_word_v {s : D} : F_Without_rule_word Z [s] = .ok (.d (wordD 2)) := by
  simp [F_Without_rule_word_eq, b_Without_rule_word, wordD]

end
section
variable {Z : Zs}
theorem F_Sum_rule_word_v {s : D} : F_Sum_rule_word Z [s] = .ok (.d (wordD 3)) := by
  simp [F_Sum_rule_word_eq, b_Sum_rule_word, wordD]

end
section
variable {Z : Zs}
theorem F_Less_rule_word_v {s : D} : F_Less_rule_word Z [s] = .ok (.d (wordD 4)) := by
  simp [F_Less_rule_word_eq, b_Less_rule_word, wordD]

end
section
variable {Z : Zs}
theorem F_Least_rule_word_v {s : D} : F_Least_rule_word Z [s] = .ok (.d (wordD 5)) := by
  simp [F_Least_rule_word_eq, b_Least_rule_word, wordD]

end
section
variable {Z : Zs}
theorem F_Greatest_rule_word_v {s : D} : F_Greatest_rule_word Z [s] = .ok (.d (wordD 6)) := by
  simp [F_Greatest_rule_word_eq, b_Greatest_rule_word, wordD]

end
section
variable {Z : Zs}
theorem F_Same_rule_word_v {s : D} : F_Same_rule_word Z [s] = .ok (.d (wordD 7)) := by
  simp [F_Same_rule_word_eq, b_Same_rule_word, wordD]

end
section
variable {Z : Zs}
theorem F_all_rules_v : F_all_rules Z [] = .ok (.own [rlD Z 0 0, rlD Z 1 0, rlD Z 2 0, rlD Z 3 0, rlD Z 4 0, rlD Z 5 0, rlD Z 6 0, rlD Z 7 0]) := by
  simp [F_all_rules_eq, b_all_rules, rlD, rlC]

end
section
variable {Z : Zs}
theorem F_is_kept_v {s : Str} : F_is_kept Z [.str s] = .ok (.d (.bl (keptB s))) := by
  have h0 := F_all_rules_v (Z := Z)
  have i1 := inS_ws (s := s) (ws := keptL) (.inl rfl)
  have i2 := inS_ws (s := s) (ws := titleL) (.inr rfl)
  unfold keptL at i1
  unfold titleL at i2
  simp only [List.map] at i1 i2
  have hh : hide [.d (.str s), .un] [1] = ([.d (.str s), .un] : List S) := rfl
  unfold keptB keptL titleL
  generalize decide (s ∈ (["flat", "only", "shifted", "flipped"] : List Str)) = b1 at *
  generalize decide (s ∈ (["over", "where", "without", "sum", "less", "least", "greatest", "same"] : List Str)) = b2 at *
  cases b1 <;> simp [F_is_kept_eq, b_is_kept, h0, hh, lcF, lcS, rlD, rlC, F_Over_rule_word_v, F_Where_rule_word_v, F_Without_rule_word_v, F_Sum_rule_word_v, F_Less_rule_word_v, F_Least_rule_word_v, F_Greatest_rule_word_v, F_Same_rule_word_v, wordD, i1, i2, List.lookup]

end
section
variable {Z : Zs}
theorem F_is_name_v {s : Str} (hl : s.length ≤ 1000) : F_is_name Z [.str s] = .ok (.d (.bl (nameB s))) := by
  have hk := F_is_kept_v (Z := Z) (s := s)
  have hh : hide [.d (.str s), .un] [1] = ([.d (.str s), .un] : List S) := rfl
  have lc : lcF (lcS (SG.name 1) (ST.yes : ST (HY Z)) (.op oIn (.var 1) (.str "abcdefghijklmnopqrstuvwxyz")) [.d (.str s), .un]) (chD s) = .ok (s.cps.toList.map fun c => D.bl (decide (c ∈ smallL))) := by
    unfold chD
    exact lcF_all fun c _ => by
      have := small_in c
      simp [lcS, this]
  have al : allF [.lst (s.cps.toList.map fun c => D.bl (decide (c ∈ smallL)))] = some (.d (.bl (s.cps.toList.all fun c => decide (c ∈ smallL)))) := by
    rw [allF_map]
  have hlen : (s.cps.toList.map fun c => D.bl (decide (c ∈ smallL))).length ≤ 16777216 := by
    rw [List.length_map, Array.length_toList]
    have : s.cps.size = s.length := rfl
    omega
  have hch : (chD s).length ≤ 16777216 := by unfold chD; rw [List.length_map, Array.length_toList]; have : s.cps.size = s.length := rfl; omega
  have le : lenF [.str s] = some (.d (.int s.length)) := if_pos (by rw [sizeLine_eq]; omega)
  unfold nameB
  generalize (s.cps.toList.map fun c => D.bl (decide (c ∈ smallL))) = L at *
  generalize (s.cps.toList.all fun c => decide (c ∈ smallL)) = b1 at *
  generalize keptB s = b2 at *
  by_cases h : 1 ≤ s.length ∧ s.length ≤ 8
  · have g1 : (1 : Int) ≤ (s.length : Int) := by omega
    have g2 : (s.length : Int) ≤ 8 := by omega
    cases b1 <;> simp (disch := walk_at "dd") [F_is_name_eq, b_is_name, hh, lc, al, hk, h, g1, g2, hlen, le, hch]
  · have g : ¬ ((1 : Int) ≤ (s.length : Int) ∧ (s.length : Int) ≤ 8) := by omega
    by_cases g1 : (1 : Int) ≤ (s.length : Int)
    · have g2 : ¬ (s.length : Int) ≤ 8 := fun z => g ⟨g1, z⟩
      simp (disch := walk_at "dd") [F_is_name_eq, b_is_name, h, g1, g2, le]
    · simp (disch := walk_at "dd") [F_is_name_eq, b_is_name, h, g1, le]
theorem F_is_name_x {x : D} (hk : known x = true) (h : isTy x "str" = false) : F_is_name Z [x] = .ok (.d (.bl false)) := by
  simp [F_is_name_eq, b_is_name, hk, h]

end
section
variable {Z : Zs}
theorem F_need_fit_v : F_need_fit Z [.bl true] = .ok (.d .non) := by simp [F_need_fit_eq, b_need_fit]
theorem F_need_fit_x : F_need_fit Z [.bl false] = .ex Z.NoTree [] := by simp [F_need_fit_eq, b_need_fit]
theorem isi_other {x : D} (hk : known x = true) : isiF (TB Z) [x, .cls Z.Tree] = some (.d (.bl false)) := by
  cases x <;> first | (cases hk; done) | simp [isiF, tyOf, oneI, TB, find2, tyN, known]

end
section
variable {Z : Zs}
theorem F_Named_init_v {s : Str} (h : s ∈ nameL) : mkR (F_Named_init Z) [.str s] = .ok [("name", .str s)] := mkR_eq fun q => by
  have hl : s.length ≤ 1000 := by
    have : ∀ s ∈ nameL, s.length ≤ 1000 := by decide
    exact this s h
  have n := F_is_name_v (Z := Z) hl
  rw [nameL_ok s h] at n
  simp [F_Named_init_eq, b_Named_init, n, F_need_fit_v, fc_name, putD]
theorem F_Named_init_x {x : D} (h : F_is_name Z [x] = .ok (.d (.bl false))) : mkR (F_Named_init Z) [x] = .ex Z.NoTree [] := mkR_eq fun q => by
  simp [F_Named_init_eq, b_Named_init, h, F_need_fit_x]

end
section
variable {Z : Zs}
theorem F_is_place_v {x : D} (hk : known x = true) : F_is_place Z [x] = .ok (.d (.bl (isPl x))) := by
  cases h1 : isTy x "int" <;> cases h2 : isTy x "bool" <;> simp [F_is_place_eq, b_is_place, hk, isPl, h1, h2]

end
section
variable {Z : Zs}
theorem F_is_value_v {x : D} (hk : known x = true) : F_is_value Z [x] = .ok (.d (.bl (isE x))) := by
  cases h : isNon x <;> simp [F_is_value_eq, b_is_value, hk, F_is_place_v hk, isE, h]

end
section
variable {Z : Zs}
theorem F_Flat_init_v {v : Option Int} : mkR (F_Flat_init Z) [dE v] = .ok [("value", dE v)] := mkR_eq fun q => by
  have n := F_is_value_v (Z := Z) (known_dE v)
  rw [isE_dE] at n
  simp [F_Flat_init_eq, b_Flat_init, n, F_need_fit_v, fc_value, putD]
theorem F_Flat_init_x {x : D} (hk : known x = true) (h : isE x = false) : mkR (F_Flat_init Z) [x] = .ex Z.NoTree [] := mkR_eq fun q => by
  have n := F_is_value_v (Z := Z) hk
  rw [h] at n
  simp [F_Flat_init_eq, b_Flat_init, n, F_need_fit_x]

end
section
variable {Z : Zs}
theorem F_is_span_v {x : D} (hk : known x = true) (hka : knownAll x = true) : F_is_span Z [x] = .ok (.d (.bl (isSp x))) := by
  cases x with
  | tup ys =>
    match ys, hka with
    | [], _ => simp [F_is_span_eq, b_is_span, isSp]
    | [a], _ => simp [F_is_span_eq, b_is_span, isSp]
    | [a, b], hka =>
      have ka : known a = true := by simp [knownAll] at hka; exact hka.1
      have kb : known b = true := by simp [knownAll] at hka; exact hka.2
      have hh : ∀ x y : D, hide [.d x, .un] [1] = [.d x, .un] := fun _ _ => rfl
      have pa := F_is_place_v (Z := Z) ka
      have pb := F_is_place_v (Z := Z) kb
      cases a <;> first | (simp [known] at ka; done) | (cases b <;> first | (simp [known] at kb; done) | (simp [isPl] at pa pb; simp [F_is_span_eq, b_is_span, isSp, isE, isPl, leE, hide, hideS, lcF, lcS, pa, pb, allF, bools, atI0, atI1]))
    | a :: b :: c :: r, _ =>
      have : ¬ ((r.length : Int) + 1 + 1 + 1 = 2) := by omega
      simp [F_is_span_eq, b_is_span, isSp, this]
  | _ => first | (simp [known] at hk; done) | simp [F_is_span_eq, b_is_span, isSp]

end
section
variable {Z : Zs}
theorem F_Only_init_v {t : Tr} {s : Sp2} (h : ∀ a b, s.1 = some a → s.2 = some b → a ≤ b) : mkR (F_Only_init Z) [objT Z t, dS s] = .ok [("tree", objT Z t), ("span", dS s)] := mkR_eq fun q => by
  have kS : known (dS s) = true ∧ knownAll (dS s) = true := by
    obtain ⟨a, b⟩ := s
    cases a <;> cases b <;> exact ⟨rfl, rfl⟩
  have n := F_is_span_v (Z := Z) kS.1 kS.2
  have e : isSp (dS s) = true := by
    obtain ⟨a, b⟩ := s
    cases a <;> cases b <;> simp [isSp, isE, isPl, leE]
    exact h _ _ rfl rfl
  rw [e] at n
  generalize dS s = S1 at *
  cases t <;> (simp only [objT_named, objT_flat, objT_only, objT_shifted, objT_flipped, objT_joint]; simp [F_Only_init_eq, b_Only_init, n, F_need_fit_v, fc_tree, fc_span, putD, TB])
theorem F_Only_init_x {t : Tr} {x : D} (hk : known x = true) (hka : knownAll x = true) (h : isSp x = false) : mkR (F_Only_init Z) [objT Z t, x] = .ex Z.NoTree [] := mkR_eq fun q => by
  have n := F_is_span_v (Z := Z) hk hka
  rw [h] at n
  cases t <;> (simp only [objT_named, objT_flat, objT_only, objT_shifted, objT_flipped, objT_joint]; simp [F_Only_init_eq, b_Only_init, n, F_need_fit_x, TB])
theorem F_Only_init_y {x y : D} (hk : known x = true) : mkR (F_Only_init Z) [x, y] = .ex Z.NoTree [] := mkR_eq fun q => by
  have i := isi_other (Z := Z) hk
  simp [F_Only_init_eq, b_Only_init, F_need_fit_x, i]

end
section
variable {Z : Zs}
theorem F_Shifted_init_v {t : Tr} {n : Int} : mkR (F_Shifted_init Z) [objT Z t, .int n] = .ok [("tree", objT Z t), ("by", .int n)] := mkR_eq fun q => by
  have p := F_is_place_v (Z := Z) (x := .int n) rfl
  simp [isPl] at p
  cases t <;> (simp only [objT_named, objT_flat, objT_only, objT_shifted, objT_flipped, objT_joint]; simp [F_Shifted_init_eq, b_Shifted_init, p, F_need_fit_v, fc_tree, fc_by, putD, TB])
theorem F_Shifted_init_x {t : Tr} {x : D} (hk : known x = true) (h : isPl x = false) : mkR (F_Shifted_init Z) [objT Z t, x] = .ex Z.NoTree [] := mkR_eq fun q => by
  have p := F_is_place_v (Z := Z) hk
  rw [h] at p
  cases t <;> (simp only [objT_named, objT_flat, objT_only, objT_shifted, objT_flipped, objT_joint]; simp [F_Shifted_init_eq, b_Shifted_init, p, F_need_fit_x, TB])
theorem F_Shifted_init_y {x y : D} (hk : known x = true) : mkR (F_Shifted_init Z) [x, y] = .ex Z.NoTree [] := mkR_eq fun q => by
  have i := isi_other (Z := Z) hk
  simp [F_Shifted_init_eq, b_Shifted_init, F_need_fit_x, i]

end
section
variable {Z : Zs}
theorem F_Flipped_init_v {t : Tr} {n : Int} : mkR (F_Flipped_init Z) [objT Z t, .int n] = .ok [("tree", objT Z t), ("about", .int n)] := mkR_eq fun q => by
  have p := F_is_place_v (Z := Z) (x := .int n) rfl
  simp [isPl] at p
  cases t <;> (simp only [objT_named, objT_flat, objT_only, objT_shifted, objT_flipped, objT_joint]; simp [F_Flipped_init_eq, b_Flipped_init, p, F_need_fit_v, fc_tree, fc_about, putD, TB])
theorem F_Flipped_init_x {t : Tr} {x : D} (hk : known x = true) (h : isPl x = false) : mkR (F_Flipped_init Z) [objT Z t, x] = .ex Z.NoTree [] := mkR_eq fun q => by
  have p := F_is_place_v (Z := Z) hk
  rw [h] at p
  cases t <;> (simp only [objT_named, objT_flat, objT_only, objT_shifted, objT_flipped, objT_joint]; simp [F_Flipped_init_eq, b_Flipped_init, p, F_need_fit_x, TB])
theorem F_Flipped_init_y {x y : D} (hk : known x = true) : mkR (F_Flipped_init Z) [x, y] = .ex Z.NoTree [] := mkR_eq fun q => by
  have i := isi_other (Z := Z) hk
  simp [F_Flipped_init_eq, b_Flipped_init, F_need_fit_x, i]

end
section
variable {Z : Zs}
def byK (z : Str) : Option Nat := if z = "over" then some 0 else if z = "where" then some 1 else if z = "without" then some 2 else if z = "sum" then some 3 else if z = "less" then some 4 else if z = "least" then some 5 else if z = "greatest" then some 6 else if z = "same" then some 7 else none
theorem F_rule_by_v {z : Str} : F_rule_by Z [.str z] = .ok (.d (match byK z with | some k => rlD Z k 0 | none => .non)) := by
  have h0 := F_all_rules_v (Z := Z)
  have st : ∀ (k : Nat), k < 8 → ∀ w : Str, wordD k = .str w → (b_rule_by_l1 Z).f [.d (.str z), .d (rlD Z k 0)] = if z = w then .rt (.d (rlD Z k 0)) else .nx [.d (.str z), .d (rlD Z k 0)] := fun k hk w hw => by
    have e : eqF2 (.str w) (.str z) = some (.d (.bl (decide (z = w)))) := by
      have e1 : eqF2 (.str w) (.str z) = some (.d (.bl (decide (w = z)))) := rfl
      rw [e1, decide_eq_decide.mpr (show w = z ↔ z = w from ⟨Eq.symm, Eq.symm⟩)]
    rcases k8 hk with rfl | rfl | rfl | rfl | rfl | rfl | rfl | rfl <;> cases hw <;> (split <;> rename_i q <;> simp [q] at e <;> simp [b_rule_by_l1, rlD, rlC, F_Over_rule_word_v, F_Where_rule_word_v, F_Without_rule_word_v, F_Sum_rule_word_v, F_Less_rule_word_v, F_Least_rule_word_v, F_Greatest_rule_word_v, F_Same_rule_word_v, wordD, e, q])
  have g1 : ∀ y : D, (SG.name 1 : SG (HY Z)).f [.d (.str z), .un] y = some [.d (.str z), .d y] := fun _ => by simp
  have lp : forF (SG.name 1 : SG (HY Z)).f (b_rule_by_l1 Z).f [1] [rlD Z 0 0, rlD Z 1 0, rlD Z 2 0, rlD Z 3 0, rlD Z 4 0, rlD Z 5 0, rlD Z 6 0, rlD Z 7 0] [.d (.str z), .un] = match byK z with | some k => .rt (.d (rlD Z k 0)) | none => .nx [.d (.str z), .un] := by
    unfold byK
    have s0 := st 0 (by decide) _ rfl
    by_cases h0 : z = "over"
    · rw [if_pos h0] at s0 ⊢
      exact forF_rt (g1 _) s0
    rw [if_neg h0] at s0 ⊢
    rw [forF_nx (g1 _) s0]
    simp only [sW1, sW2, List.set_cons_succ, List.set_cons_zero]
    have s1 := st 1 (by decide) _ rfl
    by_cases h1 : z = "where"
    · rw [if_pos h1] at s1 ⊢
      exact forF_rt (g1 _) s1
    rw [if_neg h1] at s1 ⊢
    rw [forF_nx (g1 _) s1]
    simp only [sW1, sW2, List.set_cons_succ, List.set_cons_zero]
    have s2 := st 2 (by decide) _ rfl
    by_cases h2 : z = "without"
    · rw [if_pos h2] at s2 ⊢
      exact forF_rt (g1 _) s2
    rw [if_neg h2] at s2 ⊢
    rw [forF_nx (g1 _) s2]
    simp only [sW1, sW2, List.set_cons_succ, List.set_cons_zero]
    have s3 := st 3 (by decide) _ rfl
    by_cases h3 : z = "sum"
    · rw [if_pos h3] at s3 ⊢
      exact forF_rt (g1 _) s3
    rw [if_neg h3] at s3 ⊢
    rw [forF_nx (g1 _) s3]
    simp only [sW1, sW2, List.set_cons_succ, List.set_cons_zero]
    have s4 := st 4 (by decide) _ rfl
    by_cases h4 : z = "less"
    · rw [if_pos h4] at s4 ⊢
      exact forF_rt (g1 _) s4
    rw [if_neg h4] at s4 ⊢
    rw [forF_nx (g1 _) s4]
    simp only [sW1, sW2, List.set_cons_succ, List.set_cons_zero]
    have s5 := st 5 (by decide) _ rfl
    by_cases h5 : z = "least"
    · rw [if_pos h5] at s5 ⊢
      exact forF_rt (g1 _) s5
    rw [if_neg h5] at s5 ⊢
    rw [forF_nx (g1 _) s5]
    simp only [sW1, sW2, List.set_cons_succ, List.set_cons_zero]
    have s6 := st 6 (by decide) _ rfl
    by_cases h6 : z = "greatest"
    · rw [if_pos h6] at s6 ⊢
      exact forF_rt (g1 _) s6
    rw [if_neg h6] at s6 ⊢
    rw [forF_nx (g1 _) s6]
    simp only [sW1, sW2, List.set_cons_succ, List.set_cons_zero]
    have s7 := st 7 (by decide) _ rfl
    by_cases h7 : z = "same"
    · rw [if_pos h7] at s7 ⊢
      exact forF_rt (g1 _) s7
    rw [if_neg h7] at s7 ⊢
    rw [forF_nx (g1 _) s7]
    simp only [sW1, sW2, List.set_cons_succ, List.set_cons_zero]
    rfl
  clear st
  cases hb : byK z with
  | none => rw [hb] at lp; simp [F_rule_by_eq, b_rule_by, h0, lp]
  | some k => rw [hb] at lp; simp [F_rule_by_eq, b_rule_by, h0, lp]
end
section
variable {Z : Zs}
theorem isi_tree (t : Tr) : isiF (TB Z) [objT Z t, .cls Z.Tree] = some (.d (.bl true)) := by
  cases t <;> (simp only [objT_named, objT_flat, objT_only, objT_shifted, objT_flipped, objT_joint]; simp [TB])
theorem byK_title : ∀ w ∈ titleL, (byK w).isSome = true := by decide
theorem F_Joint_init_v {w : Str} {a b : Tr} (h : w ∈ titleL) : mkR (F_Joint_init Z) [.str w, objT Z a, objT Z b] = .ok [("title", .str w), ("one", objT Z a), ("other", objT Z b)] := mkR_eq fun q => by
  have r := F_rule_by_v (Z := Z) (z := w)
  have s := byK_title w h
  obtain ⟨k, hk⟩ := Option.isSome_iff_exists.mp s
  rw [hk] at r
  simp only at r
  unfold rlD at r
  have i1 := isi_tree (Z := Z) a
  have i2 := isi_tree (Z := Z) b
  generalize objT Z a = A at *
  generalize objT Z b = B at *
  simp [F_Joint_init_eq, b_Joint_init, r, F_need_fit_v, i1, i2, isNon, fc_title, fc_one, fc_other, putD]
theorem F_Joint_init_x {w : Str} {A B : D} (h : byK w = none) : mkR (F_Joint_init Z) [.str w, A, B] = .ex Z.NoTree [] := mkR_eq fun q => by
  have r := F_rule_by_v (Z := Z) (z := w)
  rw [h] at r
  simp only at r
  simp [F_Joint_init_eq, b_Joint_init, r, F_need_fit_x, isNon]
theorem F_Joint_init_y {x A B : D} (hk : known x = true) (h : isTy x "str" = false) : mkR (F_Joint_init Z) [x, A, B] = .ex Z.NoTree [] := mkR_eq fun q => by
  simp [F_Joint_init_eq, b_Joint_init, hk, h, F_need_fit_x]
theorem F_Joint_init_z {w : Str} {a : Tr} {x : D} (h : w ∈ titleL) (hk : known x = true) : mkR (F_Joint_init Z) [.str w, objT Z a, x] = .ex Z.NoTree [] ∧ mkR (F_Joint_init Z) [.str w, x, objT Z a] = .ex Z.NoTree [] := by
  have r := F_rule_by_v (Z := Z) (z := w)
  have s := byK_title w h
  obtain ⟨k, hk2⟩ := Option.isSome_iff_exists.mp s
  rw [hk2] at r
  simp only at r
  unfold rlD at r
  have i1 := isi_tree (Z := Z) a
  have i2 := isi_other (Z := Z) hk
  generalize objT Z a = A at *
  constructor <;> exact mkR_eq fun q => by simp [F_Joint_init_eq, b_Joint_init, r, F_need_fit_v, F_need_fit_x, i1, i2, isNon]

end
section
variable {Z : Zs}
theorem F_Tree_limbs_v {x : D} : F_Tree_limbs Z [x] = .ok (.d (.tup [])) := by simp [F_Tree_limbs_eq, b_Tree_limbs]

end
section
variable {Z : Zs}
theorem F_Tree_own_names_v {x : D} : F_Tree_own_names Z [x] = .ok (.own []) := by simp [F_Tree_own_names_eq, b_Tree_own_names]

end
section
variable {Z : Zs}
theorem F_Named_own_names_v {s : Str} : F_Named_own_names Z [objT Z (.named s)] = .ok (.own [.str s]) := by
  simp [F_Named_own_names_eq, b_Named_own_names, objT, fc_name, List.lookup]

end
section
variable {Z : Zs}
theorem F_Named_told_v {s : Str} : F_Named_told Z [objT Z (.named s)] = .ok (.d (toldT (.named s))) := by
  simp [F_Named_told_eq, b_Named_told, objT, toldT, fc_name, List.lookup]

end
section
variable {Z : Zs}
theorem F_Flat_told_v {v : Option Int} : F_Flat_told Z [objT Z (.flat v)] = .ok (.d (toldT (.flat v))) := by
  simp [F_Flat_told_eq, b_Flat_told, objT, toldT, fc_value, List.lookup]

end
section
variable {Z : Zs}
theorem F_Only_limbs_v {t : Tr} {s : Sp2} : F_Only_limbs Z [objT Z (.only t s)] = .ok (.d (.tup [objT Z t])) := by
  simp [F_Only_limbs_eq, b_Only_limbs, objT, fc_tree, List.lookup]

end
section
variable {Z : Zs}
/-- each kind's own way of telling, n levels deep -/
def TellsT (Z : Zs) (n : Nat) : Tr → Prop
  | .named s => F_Named_told Z [objT Z (.named s)] = .ok (.d (toldT (.named s)))
  | .flat v => F_Flat_told Z [objT Z (.flat v)] = .ok (.d (toldT (.flat v)))
  | .only t s => Fg_0 Z n 0 [objT Z (.only t s)] = .ok (.d (toldT (.only t s)))
  | .shifted t s => Fg_0 Z n 1 [objT Z (.shifted t s)] = .ok (.d (toldT (.shifted t s)))
  | .flipped t s => Fg_0 Z n 2 [objT Z (.flipped t s)] = .ok (.d (toldT (.flipped t s)))
  | .joint w a b => Fg_0 Z n 3 [objT Z (.joint w a b)] = .ok (.d (toldT (.joint w a b)))
/-- tree.told() of whatever kind -/
noncomputable def tellE (Z : Zs) (FF : Nat → List D → M S) (e : SE (HY Z)) : SE (HY Z) := .either (.meth Z.Named "told" (F_Named_told Z) e .nil) (.either (.meth Z.Flat "told" (F_Flat_told Z) e .nil) (.either (.meth Z.Only "told" (FF 0) e .nil) (.either (.meth Z.Shifted "told" (FF 1) e .nil) (.either (.meth Z.Flipped "told" (FF 2) e .nil) (.meth Z.Joint "told" (FF 3) e .nil)))))
theorem tellE_f {n : Nat} {t : Tr} {e : SE (HY Z)} {δ : List S} (he : e.f δ = .ok (.d (objT Z t))) (h : TellsT Z n t) : (tellE Z (Fg_0 Z n) e).f δ = .ok (.d (toldT t)) := by
  unfold tellE
  cases t <;> (unfold TellsT at h; unfold objT at he h; simp [he, h, List.lookup])
theorem tells_all : ∀ (t : Tr) (n : Nat), dpT t ≤ n → TellsT Z n t
  | .named s, n, _ => F_Named_told_v
  | .flat v, n, _ => F_Flat_told_v
  | .only t s, 0, h => by unfold dpT at h; omega
  | .shifted t s, 0, h => by unfold dpT at h; omega
  | .flipped t s, 0, h => by unfold dpT at h; omega
  | .joint w a b, 0, h => by unfold dpT at h; omega
  | .only t s, n + 1, h => by
    have ih := tells_all t n (by unfold dpT at h; omega)
    have he : (SE.fld "tree" (fc_tree Z) (fo_tree Z) (.var 0) : SE (HY Z)).f [.d (objT Z (.only t s))] = .ok (.d (objT Z t)) := by simp [objT, fc_tree, List.lookup]
    have h2 : (SE.fld "span" (fc_span Z) (fo_span Z) (.var 0) : SE (HY Z)).f [.d (objT Z (.only t s))] = .ok (.d (dS s)) := by simp [objT, fc_span, List.lookup]
    have e : b_Only_told Z (Fg_0 Z n) = .ret (.tup (.cons (.str "only") (.cons (tellE Z (Fg_0 Z n) (.fld "tree" (fc_tree Z) (fo_tree Z) (.var 0))) (.cons (.fld "span" (fc_span Z) (fo_span Z) (.var 0)) .nil)))) := rfl
    show Fg_0 Z (n + 1) 0 _ = _
    rw [F_Only_told_s, e]
    have h1 := tellE_f he ih
    unfold toldT
    generalize (tellE Z (Fg_0 Z n) (.fld "tree" (fc_tree Z) (fo_tree Z) (.var 0))) = E1 at *
    generalize (SE.fld "span" (fc_span Z) (fo_span Z) (.var 0) : SE (HY Z)) = E2 at *
    generalize objT Z (.only t s) = o at *
    simp [h1, h2]
  | .shifted t s, n + 1, h => by
    have ih := tells_all t n (by unfold dpT at h; omega)
    have he : (SE.fld "tree" (fc_tree Z) (fo_tree Z) (.var 0) : SE (HY Z)).f [.d (objT Z (.shifted t s))] = .ok (.d (objT Z t)) := by simp [objT, fc_tree, List.lookup]
    have h2 : (SE.fld "by" (fc_by Z) (fo_by Z) (.var 0) : SE (HY Z)).f [.d (objT Z (.shifted t s))] = .ok (.d (.int s)) := by simp [objT, fc_by, List.lookup]
    have e : b_Shifted_told Z (Fg_0 Z n) = .ret (.tup (.cons (.str "shifted") (.cons (tellE Z (Fg_0 Z n) (.fld "tree" (fc_tree Z) (fo_tree Z) (.var 0))) (.cons (.fld "by" (fc_by Z) (fo_by Z) (.var 0)) .nil)))) := rfl
    show Fg_0 Z (n + 1) 1 _ = _
    rw [F_Shifted_told_s, e]
    have h1 := tellE_f he ih
    unfold toldT
    generalize (tellE Z (Fg_0 Z n) (.fld "tree" (fc_tree Z) (fo_tree Z) (.var 0))) = E1 at *
    generalize (SE.fld "by" (fc_by Z) (fo_by Z) (.var 0) : SE (HY Z)) = E2 at *
    generalize objT Z (.shifted t s) = o at *
    simp [h1, h2]
  | .flipped t s, n + 1, h => by
    have ih := tells_all t n (by unfold dpT at h; omega)
    have he : (SE.fld "tree" (fc_tree Z) (fo_tree Z) (.var 0) : SE (HY Z)).f [.d (objT Z (.flipped t s))] = .ok (.d (objT Z t)) := by simp [objT, fc_tree, List.lookup]
    have h2 : (SE.fld "about" (fc_about Z) (fo_about Z) (.var 0) : SE (HY Z)).f [.d (objT Z (.flipped t s))] = .ok (.d (.int s)) := by simp [objT, fc_about, List.lookup]
    have e : b_Flipped_told Z (Fg_0 Z n) = .ret (.tup (.cons (.str "flipped") (.cons (tellE Z (Fg_0 Z n) (.fld "tree" (fc_tree Z) (fo_tree Z) (.var 0))) (.cons (.fld "about" (fc_about Z) (fo_about Z) (.var 0)) .nil)))) := rfl
    show Fg_0 Z (n + 1) 2 _ = _
    rw [F_Flipped_told_s, e]
    have h1 := tellE_f he ih
    unfold toldT
    generalize (tellE Z (Fg_0 Z n) (.fld "tree" (fc_tree Z) (fo_tree Z) (.var 0))) = E1 at *
    generalize (SE.fld "about" (fc_about Z) (fo_about Z) (.var 0) : SE (HY Z)) = E2 at *
    generalize objT Z (.flipped t s) = o at *
    simp [h1, h2]
  | .joint w a b, n + 1, h => by
    have i1 := tells_all a n (by unfold dpT at h; omega)
    have i2 := tells_all b n (by unfold dpT at h; omega)
    have g1 : (SE.fld "one" (fc_one Z) (fo_one Z) (.var 0) : SE (HY Z)).f [.d (objT Z (.joint w a b))] = .ok (.d (objT Z a)) := by simp [objT, fc_one, List.lookup]
    have g2 : (SE.fld "other" (fc_other Z) (fo_other Z) (.var 0) : SE (HY Z)).f [.d (objT Z (.joint w a b))] = .ok (.d (objT Z b)) := by simp [objT, fc_other, List.lookup]
    have h2 : (SE.fld "title" (fc_title Z) (fo_title Z) (.var 0) : SE (HY Z)).f [.d (objT Z (.joint w a b))] = .ok (.d (.str w)) := by simp [objT, fc_title, List.lookup]
    have e : b_Joint_told Z (Fg_0 Z n) = .ret (.tup (.cons (.str "joint") (.cons (.fld "title" (fc_title Z) (fo_title Z) (.var 0)) (.cons (tellE Z (Fg_0 Z n) (.fld "one" (fc_one Z) (fo_one Z) (.var 0))) (.cons (tellE Z (Fg_0 Z n) (.fld "other" (fc_other Z) (fo_other Z) (.var 0))) .nil))))) := rfl
    show Fg_0 Z (n + 1) 3 _ = _
    rw [F_Joint_told_s, e]
    have h1 := tellE_f g1 i1
    have h3 := tellE_f g2 i2
    unfold toldT
    generalize (tellE Z (Fg_0 Z n) (.fld "one" (fc_one Z) (fo_one Z) (.var 0))) = E1 at *
    generalize (tellE Z (Fg_0 Z n) (.fld "other" (fc_other Z) (fo_other Z) (.var 0))) = E3 at *
    generalize (SE.fld "title" (fc_title Z) (fo_title Z) (.var 0) : SE (HY Z)) = E2 at *
    generalize objT Z (.joint w a b) = o at *
    simp [h1, h2, h3]

end
section
variable {Z : Zs}
theorem F_Shifted_limbs_v {t : Tr} {s : Int} : F_Shifted_limbs Z [objT Z (.shifted t s)] = .ok (.d (.tup [objT Z t])) := by
  simp [F_Shifted_limbs_eq, b_Shifted_limbs, objT, fc_tree, List.lookup]

end
section
variable {Z : Zs}
theorem F_Flipped_limbs_v {t : Tr} {s : Int} : F_Flipped_limbs Z [objT Z (.flipped t s)] = .ok (.d (.tup [objT Z t])) := by
  simp [F_Flipped_limbs_eq, b_Flipped_limbs, objT, fc_tree, List.lookup]

end
section
variable {Z : Zs}
theorem F_Joint_limbs_v {w : Str} {a b : Tr} : F_Joint_limbs Z [objT Z (.joint w a b)] = .ok (.d (.tup [objT Z a, objT Z b])) := by
  simp [F_Joint_limbs_eq, b_Joint_limbs, objT, fc_one, fc_other, List.lookup]

end
section
variable {Z : Zs}
noncomputable def limbE (Z : Zs) (e : SE (HY Z)) : SE (HY Z) := .either (.meth Z.Tree "limbs" (F_Tree_limbs Z) e .nil) (.either (.meth Z.Named "limbs" (F_Tree_limbs Z) e .nil) (.either (.meth Z.Flat "limbs" (F_Tree_limbs Z) e .nil) (.either (.meth Z.Only "limbs" (F_Only_limbs Z) e .nil) (.either (.meth Z.Shifted "limbs" (F_Shifted_limbs Z) e .nil) (.either (.meth Z.Flipped "limbs" (F_Flipped_limbs Z) e .nil) (.meth Z.Joint "limbs" (F_Joint_limbs Z) e .nil))))))
theorem limbE_f {t : Tr} {e : SE (HY Z)} {δ : List S} (he : e.f δ = .ok (.d (objT Z t))) : (limbE Z e).f δ = .ok (.d (.tup ((limbsT t).map (objT Z)))) := by
  have h0 := fun x : D => F_Tree_limbs_v (Z := Z) (x := x)
  have h1 := fun (t : Tr) (s : Sp2) => F_Only_limbs_v (Z := Z) (t := t) (s := s)
  have h2 := fun (t : Tr) (s : Int) => F_Shifted_limbs_v (Z := Z) (t := t) (s := s)
  have h3 := fun (t : Tr) (s : Int) => F_Flipped_limbs_v (Z := Z) (t := t) (s := s)
  have h4 := fun (w : Str) (a b : Tr) => F_Joint_limbs_v (Z := Z) (w := w) (a := a) (b := b)
  unfold limbE
  simp only [objT_only, objT_shifted, objT_flipped, objT_joint] at h1 h2 h3 h4
  cases t <;> (simp only [objT_named, objT_flat, objT_only, objT_shifted, objT_flipped, objT_joint] at he; simp [he, h0, h1, h2, h3, h4, limbsT, List.lookup])
theorem all_parts_n : ∀ (n : Nat) (t : Tr), dpT t ≤ n → szT t ≤ 100000 → Fn_all_parts Z n [objT Z t] = .ok (.d (.lst ((partsT t).map (objT Z)))) := by
  have body : ∀ (FF : List D → M S) (t : Tr), szT t ≤ 100000 → (∀ u ∈ limbsT t, FF [objT Z u] = .ok (.d (.lst ((partsT u).map (objT Z))))) → fin ((b_all_parts Z FF).f [.d (objT Z t), .un, .un]) = .ok (.d (.lst ((partsT t).map (objT Z)))) := fun FF t hz hu => by
    have e : b_all_parts Z FF = .seq (.setD 1 (.lst (.cons (.var 0) .nil))) (.seq (.forS (.seq (limbE Z (.var 0))) (.name 2) [2] (b_all_parts_l1 Z FF)) (.ret (.var 1))) := rfl
    have he : ∀ s1 : S, (SE.var 0 : SE (HY Z)).f [.d (objT Z t), s1, .un] = .ok (.d (objT Z t)) := fun _ => by simp
    have hl := fun s1 : S => limbE_f (he s1)
    have hp : (limbsT t).map (fun u => partsT u) |>.flatten |>.length |> (· ≤ 100000) := by
      cases t <;> simp [limbsT, partsT_len, szT] at hz ⊢ <;> omega
    have step : ∀ (u : Tr) (A : List D), u ∈ limbsT t → A.length + szT u ≤ 16777216 → (b_all_parts_l1 Z FF).f [.d (objT Z t), .d (.lst A), .d (objT Z u)] = .nx [.d (objT Z t), .d (.lst (A ++ (partsT u).map (objT Z))), .d (objT Z u)] := fun u A hm hA => by
      have h1 := hu u hm
      have ad : addF (.lst A) (.lst ((partsT u).map (objT Z))) = some (.own (A ++ (partsT u).map (objT Z))) := addF_lst (by rw [List.length_map, partsT_len]; omega)
      generalize (partsT u).map (objT Z) = P at *
      generalize objT Z u = o at *
      generalize objT Z t = p at *
      simp [b_all_parts_l1, h1, ad]
    rw [e]
    have pe : partsT t = t :: ((limbsT t).map fun u => partsT u).flatten := by cases t <;> simp [partsT, limbsT]
    have hh := hl (.d (.lst [objT Z t]))
    have key : ∀ (us : List Tr) (A : List D), (∀ u ∈ us, u ∈ limbsT t) → A.length + ((us.map fun u => partsT u).flatten).length ≤ 200000 → forF (SG.name 2 : SG (HY Z)).f (b_all_parts_l1 Z FF).f [2] (us.map (objT Z)) [.d (objT Z t), .d (.lst A), .un] = .nx [.d (objT Z t), .d (.lst (A ++ ((us.map fun u => partsT u).flatten).map (objT Z))), .un] := by
      intro us
      induction us with
      | nil => intro A _ _; simp [forF]
      | cons u r ih =>
        intro A hm hA
        have hlen : ((u :: r).map fun u => partsT u).flatten.length = szT u + ((r.map fun u => partsT u).flatten).length := by rw [List.map_cons, List.flatten_cons, List.length_append, partsT_len]
        have s1 := step u A (hm u (List.mem_cons_self ..)) (by omega)
        have g1 : (SG.name 2 : SG (HY Z)).f [.d (objT Z t), .d (.lst A), .un] (objT Z u) = some [.d (objT Z t), .d (.lst A), .d (objT Z u)] := by simp
        rw [List.map_cons, forF_nx g1 s1]
        have i1 := ih (A ++ (partsT u).map (objT Z)) (fun x hx => hm x (List.mem_cons_of_mem _ hx)) (by rw [List.length_append, List.length_map, partsT_len]; omega)
        have w : wpF [2] [S.d (objT Z t), .d (.lst (A ++ (partsT u).map (objT Z))), .d (objT Z u)] = [.d (objT Z t), .d (.lst (A ++ (partsT u).map (objT Z))), .un] := by simp
        rw [w, i1, List.map_cons, List.flatten_cons, List.map_append, List.append_assoc]
    have k := key (limbsT t) [objT Z t] (fun _ h => h) (by
      have : (([objT Z t] : List D)).length = 1 := rfl
      omega)
    rw [pe, List.map_cons]
    generalize limbE Z (SE.var 0) = LE at *
    generalize (limbsT t).map (objT Z) = LL at *
    generalize (((limbsT t).map fun u => partsT u).flatten).map (objT Z) = P at *
    generalize objT Z t = o at *
    simp [hh, k]
  intro n
  induction n with
  | zero =>
    intro t h hz
    rw [F_all_parts_0]
    exact body _ t hz fun u hu => by cases t <;> first | (cases hu; done) | (unfold dpT at h; omega)
  | succ n ih =>
    intro t h hz
    rw [F_all_parts_s]
    refine body _ t hz fun u hu => ih u ?_ ?_
    · cases t <;> simp [limbsT] at hu <;> unfold dpT at h <;> first | (rcases hu with rfl | rfl <;> omega) | (subst hu; omega)
    · cases t <;> simp [limbsT] at hu <;> unfold szT at hz <;> first | (rcases hu with rfl | rfl <;> omega) | (subst hu; omega)
theorem F_all_parts_v {t : Tr} (h : dpT t ≤ 13) (hz : szT t ≤ 100000) : F_all_parts Z [objT Z t] = .ok (.d (.lst ((partsT t).map (objT Z)))) := all_parts_n 13 t h hz

end
section
variable {Z : Zs}
noncomputable def ownE (Z : Zs) (e : SE (HY Z)) : SE (HY Z) := .either (.meth Z.Tree "own_names" (F_Tree_own_names Z) e .nil) (.either (.meth Z.Named "own_names" (F_Named_own_names Z) e .nil) (.either (.meth Z.Flat "own_names" (F_Tree_own_names Z) e .nil) (.either (.meth Z.Only "own_names" (F_Tree_own_names Z) e .nil) (.either (.meth Z.Shifted "own_names" (F_Tree_own_names Z) e .nil) (.either (.meth Z.Flipped "own_names" (F_Tree_own_names Z) e .nil) (.meth Z.Joint "own_names" (F_Tree_own_names Z) e .nil))))))
theorem ownE_f {t : Tr} {e : SE (HY Z)} {δ : List S} (he : e.f δ = .ok (.d (objT Z t))) : (ownE Z e).f δ = .ok (.own ((ownN t).map D.str)) := by
  have h0 := fun x : D => F_Tree_own_names_v (Z := Z) (x := x)
  have h1 := fun s : Str => F_Named_own_names_v (Z := Z) (s := s)
  simp only [objT_named] at h1
  unfold ownE
  cases t <;> (simp only [objT_named, objT_flat, objT_only, objT_shifted, objT_flipped, objT_joint] at he; simp [he, h0, h1, ownN, List.lookup])
theorem F_names_in_v {t : Tr} (h : dpT t ≤ 13) (hz : szT t ≤ 3000) : F_names_in Z [objT Z t] = .ok (.own ((sortT (namesT t)).map D.str)) := by
  have a := F_all_parts_v (Z := Z) h (by omega)
  have e : b_names_in_l1 Z = .setD 1 (.op oAdd (.var 1) (ownE Z (.var 2))) := rfl
  have oz : ∀ u : Tr, ((ownN u).map D.str).length ≤ 1 := fun u => by cases u <;> simp [ownN]
  have key : ∀ (us : List Tr) (A : List D), A.length + us.length ≤ 10000 → forF (SG.name 2 : SG (HY Z)).f (b_names_in_l1 Z).f [2] (us.map (objT Z)) [.d (objT Z t), .d (.lst A), .un] = .nx [.d (objT Z t), .d (.lst (A ++ ((us.map ownN).flatten).map D.str)), .un] := by
    intro us
    induction us with
    | nil => intro A _; simp [forF]
    | cons u r ih =>
      intro A hA
      rw [List.length_cons] at hA
      have ou := oz u
      have he : (SE.var 2 : SE (HY Z)).f [.d (objT Z t), .d (.lst A), .d (objT Z u)] = .ok (.d (objT Z u)) := by simp
      have o1 := ownE_f he
      have ad : addF (.lst A) (.lst ((ownN u).map D.str)) = some (.own (A ++ (ownN u).map D.str)) := addF_lst (by omega)
      have s1 : (b_names_in_l1 Z).f [.d (objT Z t), .d (.lst A), .d (objT Z u)] = .nx [.d (objT Z t), .d (.lst (A ++ (ownN u).map D.str)), .d (objT Z u)] := by
        rw [e]
        generalize ownE Z (SE.var 2) = E at *
        generalize (ownN u).map D.str = P at *
        generalize objT Z u = o at *
        generalize objT Z t = p at *
        simp [o1, ad]
      have g1 : (SG.name 2 : SG (HY Z)).f [.d (objT Z t), .d (.lst A), .un] (objT Z u) = some [.d (objT Z t), .d (.lst A), .d (objT Z u)] := by simp
      rw [List.map_cons, forF_nx g1 s1]
      have i1 := ih (A ++ (ownN u).map D.str) (by rw [List.length_append]; omega)
      have w : wpF [2] [S.d (objT Z t), .d (.lst (A ++ (ownN u).map D.str)), .d (objT Z u)] = [.d (objT Z t), .d (.lst (A ++ (ownN u).map D.str)), .un] := by simp
      rw [w, i1, List.map_cons, List.flatten_cons, List.map_append, List.append_assoc]
  have k := key (partsT t) [] (by rw [partsT_len]; simp; omega)
  rw [parts_names, List.nil_append] at k
  have so := sortTF_ss (ss := namesT t) (by have := namesT_len t; omega)
  generalize (partsT t).map (objT Z) = L at *
  generalize (namesT t).map D.str = N at *
  generalize (sortT (namesT t)).map D.str = M at *
  generalize objT Z t = o at *
  simp [F_names_in_eq, b_names_in, a, k, so]

end
section
variable {Z : Zs}
theorem F_parts_in_v {t : Tr} (h : dpT t ≤ 13) (hz : szT t ≤ 100000) : F_parts_in Z [objT Z t] = .ok (.d (.int (szT t : Int))) := by
  have a := F_all_parts_v (Z := Z) h hz
  have hl : ((partsT t).map (objT Z)).length = szT t := by rw [List.length_map, partsT_len]
  generalize (partsT t).map (objT Z) = L at *
  generalize objT Z t = o at *
  simp [F_parts_in_eq, b_parts_in, a, hl]

end
section
variable {Z : Zs}
theorem F_l_cell_v {ns : List Int} {k : Int} (hl : ns.length ≤ 63) : F_l_cell Z [scrD ns, .int k] = .ok (.d (.int (cell ns k))) := by
  cases ns with
  | nil => simp (disch := walk_at "dd") [F_l_cell_eq, b_l_cell, cell]
  | cons n r =>
    have hp : (0 : Int) < ((n :: r).length : Int) := by simp only [List.length_cons]; omega
    have hq : (((n :: r).map D.int).length : Int) = ((n :: r).length : Int) := by rw [List.length_map]
    have hat : L2.atI ((n :: r).map D.int) (k % ((n :: r).length : Int)) = some (.int ((n :: r).getD (k % ((n :: r).length : Int)).toNat 0)) := atI_ints (Int.emod_nonneg _ (by omega)) (Int.emod_lt_of_pos _ hp)
    have hlt : ((n :: r).length : Int) < 1073741824 := by omega
    have hne : (n :: r).isEmpty = false := rfl
    have hx : cell (n :: r) k = (let m := ((n :: r).getD (k % ((n :: r).length : Int)).toNat 0 * 48271 + 104729 * k + k / ((n :: r).length : Int) * 7919) % 2147483647; let m := m * m % 2147483629; (m * m + 69621 * m + k) % 2147483587) := rfl
    rw [hx]
    generalize n :: r = ns at *
    simp (disch := walk_at "dd") [F_l_cell_eq, b_l_cell, hne, hat]

end
section
variable {Z : Zs}
theorem F_l_value_e {c : Int} (h0 : 0 ≤ c) (h1 : c < 2147483648) : ∃ v : Option Int, SmV v ∧ F_l_value Z [.int c] = .ok (.d (dE v)) := by
  have hc : c.natAbs < 2 ^ 31 := by omega
  have hcc : (c * c).natAbs < 2 ^ 62 := by
    rw [Int.natAbs_mul]; exact Nat.lt_of_lt_of_eq (Nat.mul_lt_mul'' hc hc) (by decide)
  have hccc : (c * c * c).natAbs < 2 ^ 93 := by
    rw [Int.natAbs_mul]; exact Nat.lt_of_lt_of_eq (Nat.mul_lt_mul'' hcc hc) (by decide)
  have hm := mul_bits 93 93 hccc hccc (by decide)
  have hg : 0 ≤ c * c * c * (c * c * c) * c % 10 ^ 60 ∧ c * c * c * (c * c * c) * c % 10 ^ 60 < 10 ^ 60 := emod_in _ (by decide)
  rw [e60] at hg
  generalize hd : c * c * c = d at *
  generalize hgg : d * d * c % 1000000000000000000000000000000000000000000000000000000000000 = g at *
  have q12 := emod_in c (m := 12) (by decide)
  by_cases hw : c % 12 < 9
  · obtain ⟨v, hv, hat⟩ := atI_exM (xs := [none, some 0, some 1, some 5, none, some 1, some (-1), some 2, some 5]) (ys := [.non, .int 0, .int 1, .int 5, .non, .int 1, .int (-1), .int 2, .int 5]) rfl q12.1 (by show c % 12 < 9; exact hw)
    refine ⟨v, fun i hi => ?_, ?_⟩
    · subst hi; simp at hv; omega
    · simp (disch := walk_at "dd") [F_l_value_eq, b_l_value, hd, hm, hgg, hw, hat]
  · obtain ⟨v, hv, hat⟩ := atI_exM (xs := [some (c / 12 % 100 - 50), some g, some (-g)]) (ys := [.int (c / 12 % 100 - 50), .int g, .int (-g)]) (i := c % 12 - 9) rfl (by omega) (by show c % 12 - 9 < 3; omega)
    refine ⟨v, fun i hi => ?_, ?_⟩
    · subst hi; simp at hv; omega
    · simp (disch := walk_at "dd") [F_l_value_eq, b_l_value, hd, hm, hgg, hw, hat]

end
section
variable {Z : Zs}
theorem F_l_word_of_t : F_l_word_of Z [.exc Z.NoTree []] = .ok (.d (.str "NoTree")) := by
  simp [F_l_word_of_eq, b_l_word_of, TB, cntF, idxF, List.countP, List.countP.go, List.findIdx?_cons, L2.atI, ixN]

end
section
variable {Z : Zs}
theorem F_l_titles_v : F_l_titles Z [] = .ok (.own (titleL.map D.str)) := by
  simp [F_l_titles_eq, b_l_titles, titleL]

end
section
variable {Z : Zs}
theorem F_l_names_v : F_l_names Z [] = .ok (.own (nameL.map D.str)) := by
  simp [F_l_names_eq, b_l_names, nameL]

end
section
variable {Z : Zs}
theorem F_l_near_span_e {c : Int} : ∃ s : Sp2, (∀ a b, s.1 = some a → s.2 = some b → a ≤ b) ∧ F_l_near_span Z [.int c] = .ok (.d (dS s)) := by
  have q := emod_in c (m := 9) (by decide)
  have q1 := emod_in (c / 300) (m := 14) (by decide)
  obtain ⟨f, hf⟩ : ∃ f : Int, f = c / 9 % 25 - 12 := ⟨_, rfl⟩
  obtain ⟨l, hl⟩ : ∃ l : Int, l = f + c / 300 % 14 := ⟨_, rfl⟩
  obtain ⟨x, hx, s, hs, ho⟩ := atI_ex (fun x : D => ∃ s : Sp2, x = dS s ∧ ∀ a b, s.1 = some a → s.2 = some b → a ≤ b) (xs := [D.tup [.int f, .int l], .tup [.int f, .int l], .tup [.non, .int l], .tup [.int f, .non], .tup [.non, .non], .tup [.int f, .int f], .tup [.int f, .int l], .tup [.non, .int l], .tup [.int f, .non]]) q.1 (by show c % 9 < 9; omega) (fun x hx => by
    simp only [List.mem_cons, List.not_mem_nil, or_false] at hx
    rcases hx with rfl | rfl | rfl | rfl | rfl | rfl | rfl | rfl | rfl
    · exact ⟨(some f, some l), rfl, fun a b h1 h2 => by cases h1; cases h2; omega⟩
    · exact ⟨(some f, some l), rfl, fun a b h1 h2 => by cases h1; cases h2; omega⟩
    · exact ⟨(none, some l), rfl, fun a b h1 h2 => (nomatch h1)⟩
    · exact ⟨(some f, none), rfl, fun a b h1 h2 => (nomatch h2)⟩
    · exact ⟨(none, none), rfl, fun a b h1 h2 => (nomatch h1)⟩
    · exact ⟨(some f, some f), rfl, fun a b h1 h2 => by cases h1; cases h2; omega⟩
    · exact ⟨(some f, some l), rfl, fun a b h1 h2 => by cases h1; cases h2; omega⟩
    · exact ⟨(none, some l), rfl, fun a b h1 h2 => (nomatch h1)⟩
    · exact ⟨(some f, none), rfl, fun a b h1 h2 => (nomatch h2)⟩)
  refine ⟨s, ho, ?_⟩
  rw [← hs]
  have ad : addF (.lst [D.tup [.int f, .int l], .tup [.int f, .int l], .tup [.non, .int l], .tup [.int f, .non], .tup [.non, .non], .tup [.int f, .int f]]) (.lst [D.tup [.int f, .int l], .tup [.non, .int l], .tup [.int f, .non]]) = some (.own [D.tup [.int f, .int l], .tup [.int f, .int l], .tup [.non, .int l], .tup [.int f, .non], .tup [.non, .non], .tup [.int f, .int f], .tup [.int f, .int l], .tup [.non, .int l], .tup [.int f, .non]]) := addF_lst (by simp)
  rw [hl, hf] at ad hx
  simp (disch := walk_at "dd") [F_l_near_span_eq, b_l_near_span, ad, hx]

end
section
variable {Z : Zs}
theorem tree_n {ns : List Int} (hl : ns.length ≤ 63) : ∀ (n : Nat) (base node : Int) (deep : Nat), deep ≤ n → ∃ t : Tr, okT t ∧ dpT t ≤ deep ∧ szT t + 1 ≤ 2 ^ (deep + 1) ∧ Fn_l_tree Z n [scrD ns, .int base, .int node, .int (deep : Int)] = .ok (.d (toldT t)) := by
  have body : ∀ (FF : List D → M S) (base node : Int) (deep : Nat), (∀ m : Int, deep ≠ 0 → ∃ t : Tr, okT t ∧ dpT t ≤ deep - 1 ∧ szT t + 1 ≤ 2 ^ deep ∧ FF [scrD ns, .int base, .int m, .int ((deep : Int) - 1)] = .ok (.d (toldT t))) →
      ∃ t : Tr, okT t ∧ dpT t ≤ deep ∧ szT t + 1 ≤ 2 ^ (deep + 1) ∧ fin ((b_l_tree Z FF).f [.d (scrD ns), .d (.int base), .d (.int node), .d (.int (deep : Int)), .un, .un, .un, .un]) = .ok (.d (toldT t)) := fun FF base node deep ih => by
    have c0 := F_l_cell_v (Z := Z) (k := base + node) hl
    have cp := cell_pos ns (base + node)
    generalize cell ns (base + node) = c at *
    have q := emod_in c (m := 17) (by decide)
    have p0 : 2 ≤ 2 ^ (deep + 1) := by
      have := Nat.one_le_two_pow (n := deep)
      rw [Nat.pow_succ]; omega
    obtain ⟨w, hw, w0, w1⟩ := atI_exI (fun w => 0 ≤ w ∧ w ≤ 5) (xs := [0, 0, 1, 2, 2, 3, 3, 4, 4, 5, 5, 5, 5, 5, 2, 3, 4]) (ys := [.int 0, .int 0, .int 1, .int 2, .int 2, .int 3, .int 3, .int 4, .int 4, .int 5, .int 5, .int 5, .int 5, .int 5, .int 2, .int 3, .int 4]) (i := c % 17) rfl q.1 (by show c % 17 < 17; omega) (by decide)
    have nm := F_l_names_v (Z := Z)
    have tt := F_l_titles_v (Z := Z)
    have q6 := emod_in (c / 17) (m := 6) (by decide)
    have q8 := emod_in (c / 17) (m := 8) (by decide)
    have q3 := emod_in (c / 17) (m := 3) (by decide)
    obtain ⟨nmw, hnm, hna⟩ := str_at (ws := nameL) q6.1 (by show c / 17 % 6 < 6; omega)
    obtain ⟨tw, htw, hta⟩ := str_at (ws := titleL) q8.1 (by show c / 17 % 8 < 8; omega)
    obtain ⟨v, _, hv⟩ := F_l_value_e (Z := Z) (c := c / 17) (by omega) (by omega)
    obtain ⟨v2, hv2⟩ := atI_exE (xs := [none, none, v]) (ys := [.non, .non, dE v]) (i := c / 17 % 3) rfl q3.1 (by show c / 17 % 3 < 3; omega)
    obtain ⟨sp, hsp, hs⟩ := F_l_near_span_e (Z := Z) (c := c / 17)
    generalize nameL.map D.str = NL at *
    generalize titleL.map D.str = TL at *
    have named : ∀ w' : Int, w' = 0 → True := fun _ _ => trivial
    by_cases hd : deep = 0
    · subst hd
      have e3 : w % 3 / 2 = 0 ∨ w % 3 / 2 = 1 := by omega
      rcases e3 with e | e
      · exact ⟨.named nmw, hnm, Nat.le_refl _, by show 1 + 1 ≤ _; omega, by rw [toldT_named]; simp (disch := walk_at "dd") [b_l_tree, c0, hw, e, nm, hna]⟩
      · exact ⟨.flat v2, trivial, Nat.le_refl _, by show 1 + 1 ≤ _; omega, by rw [toldT_flat]; simp (disch := walk_at "dd") [b_l_tree, c0, hw, e, hv, hv2]⟩
    · have hd' : ¬ (deep : Int) = 0 := by omega
      have pd : 2 ^ (deep + 1) = 2 ^ deep + 2 ^ deep := by rw [Nat.pow_succ]; omega
      obtain ⟨t1, o1, d1, z1, r1⟩ := ih (2 * node) hd
      obtain ⟨t2, o2, d2, z2, r2⟩ := ih (2 * node + 1) hd
      generalize ht1 : toldT t1 = T1 at *
      generalize ht2 : toldT t2 = T2 at *
      have e : w = 0 ∨ w = 1 ∨ w = 2 ∨ w = 3 ∨ w = 4 ∨ w = 5 := by omega
      rcases e with rfl | rfl | rfl | rfl | rfl | rfl
      · exact ⟨.named nmw, hnm, Nat.zero_le _, by show 1 + 1 ≤ _; omega, by rw [toldT_named]; simp (disch := walk_at "dd") [b_l_tree, c0, hw, hd', hd, nm, hna]⟩
      · exact ⟨.flat v2, trivial, Nat.zero_le _, by show 1 + 1 ≤ _; omega, by rw [toldT_flat]; simp (disch := walk_at "dd") [b_l_tree, c0, hw, hd', hd, hv, hv2]⟩
      · exact ⟨.only t1 sp, ⟨o1, hsp⟩, by show dpT t1 + 1 ≤ _; omega, by show szT t1 + 1 + 1 ≤ _; omega, by rw [toldT_only, ht1]; generalize dS sp = SP at *; simp (disch := walk_at "dd") [b_l_tree, c0, hw, hd', hd, r1, hs]⟩
      · exact ⟨.shifted t1 (c / 17 % 15 - 7), o1, by show dpT t1 + 1 ≤ _; omega, by show szT t1 + 1 + 1 ≤ _; omega, by rw [toldT_shifted, ht1]; simp (disch := walk_at "dd") [b_l_tree, c0, hw, hd', hd, r1]⟩
      · exact ⟨.flipped t1 (c / 17 % 15 - 7), o1, by show dpT t1 + 1 ≤ _; omega, by show szT t1 + 1 + 1 ≤ _; omega, by rw [toldT_flipped, ht1]; simp (disch := walk_at "dd") [b_l_tree, c0, hw, hd', hd, r1]⟩
      · exact ⟨.joint tw t1 t2, ⟨htw, o1, o2⟩, by show max (dpT t1) (dpT t2) + 1 ≤ _; omega, by show szT t1 + szT t2 + 1 + 1 ≤ _; omega, by rw [toldT_joint, ht1, ht2]; simp (disch := walk_at "dd") [b_l_tree, c0, hw, hd', hd, r1, r2, tt, hta]⟩
  intro n
  induction n with
  | zero =>
    intro base node deep h
    obtain rfl : deep = 0 := by omega
    obtain ⟨t, h1, h2, h3, h4⟩ := body (fun _ => .no) base node 0 (fun m z => (z rfl).elim)
    exact ⟨t, h1, h2, h3, by rw [F_l_tree_0]; exact h4⟩
  | succ n ih =>
    intro base node deep h
    obtain ⟨t, h1, h2, h3, h4⟩ := body (Fn_l_tree Z n) base node deep (fun m z => by
      obtain ⟨t, a1, a2, a3, a4⟩ := ih base m (deep - 1) (by omega)
      have e : ((deep - 1 : Nat) : Int) = (deep : Int) - 1 := by omega
      rw [e] at a4
      have e2 : deep - 1 + 1 = deep := by omega
      rw [e2] at a3
      exact ⟨t, a1, a2, a3, a4⟩)
    exact ⟨t, h1, h2, h3, by rw [F_l_tree_s]; exact h4⟩
theorem F_l_tree_e {ns : List Int} {base node : Int} {deep : Nat} (hl : ns.length ≤ 63) (h : deep ≤ 6) : ∃ t : Tr, okT t ∧ dpT t ≤ deep ∧ szT t + 1 ≤ 2 ^ (deep + 1) ∧ F_l_tree Z [scrD ns, .int base, .int node, .int (deep : Int)] = .ok (.d (toldT t)) := tree_n hl 6 base node deep h

end
section
variable {Z : Zs}
theorem made_n : ∀ (n : Nat) (t : Tr), okT t → dpT t ≤ n → Fn_l_made Z n [toldT t] = .ok (.d (objT Z t)) := by
  have body : ∀ (FF : List D → M S) (t : Tr), okT t → (∀ u ∈ limbsT t, FF [toldT u] = .ok (.d (objT Z u))) → fin ((b_l_made Z FF).f [.d (toldT t), .un, .un]) = .ok (.d (objT Z t)) := fun FF t ho hu => by
    cases t with
    | named s =>
      have h := F_Named_init_v (Z := Z) ho
      simp [toldT_named, objT_named, b_l_made, atI0, atI1, h]
    | flat v =>
      have h := F_Flat_init_v (Z := Z) (v := v)
      rw [toldT_flat, objT_flat]
      generalize dE v = V at *
      simp [b_l_made, atI0, atI1, h]
    | only t s =>
      have h := F_Only_init_v (Z := Z) (t := t) ho.2
      have h1 := hu t (List.mem_cons_self ..)
      rw [toldT_only, objT_only]
      generalize toldT t = T at *
      generalize objT Z t = O at *
      generalize dS s = V at *
      simp [b_l_made, atI0, atI1, atI2, h, h1]
    | shifted t s =>
      have h := F_Shifted_init_v (Z := Z) (t := t) (n := s)
      have h1 := hu t (List.mem_cons_self ..)
      rw [toldT_shifted, objT_shifted]
      generalize toldT t = T at *
      generalize objT Z t = O at *
      simp [b_l_made, atI0, atI1, atI2, h, h1]
    | flipped t s =>
      have h := F_Flipped_init_v (Z := Z) (t := t) (n := s)
      have h1 := hu t (List.mem_cons_self ..)
      rw [toldT_flipped, objT_flipped]
      generalize toldT t = T at *
      generalize objT Z t = O at *
      simp [b_l_made, atI0, atI1, atI2, h, h1]
    | joint w a b =>
      have h := F_Joint_init_v (Z := Z) (a := a) (b := b) ho.1
      have h1 := hu a (List.mem_cons_self ..)
      have h2 := hu b (List.mem_cons_of_mem _ (List.mem_cons_self ..))
      rw [toldT_joint, objT_joint]
      generalize toldT a = T at *
      generalize objT Z a = O at *
      generalize toldT b = T2 at *
      generalize objT Z b = O2 at *
      simp [b_l_made, atI0, atI1, atI2, atI3, h, h1, h2]
  intro n
  induction n with
  | zero =>
    intro t ho h
    rw [F_l_made_0]
    exact body _ t ho fun u hu => by cases t <;> first | (cases hu; done) | (unfold dpT at h; omega)
  | succ n ih =>
    intro t ho h
    rw [F_l_made_s]
    refine body _ t ho fun u hu => ih u ?_ ?_
    · cases t <;> simp [limbsT] at hu <;> first | (rcases hu with rfl | rfl; exact ho.2.1; exact ho.2.2) | (subst hu; exact ho.1) | (subst hu; exact ho)
    · cases t <;> simp [limbsT] at hu <;> unfold dpT at h <;> first | (rcases hu with rfl | rfl <;> omega) | (subst hu; omega)
theorem F_l_made_v {t : Tr} (h : okT t) (hd : dpT t ≤ 13) : F_l_made Z [toldT t] = .ok (.d (objT Z t)) := made_n 13 t h hd

end
section
variable {Z : Zs}
theorem in_nf {s : Str} {b : Bool} (h : decide (s ∈ (["named", "flat"] : List Str)) = b) : inS (.str s) (.lst [.str "named", .str "flat"]) = some b := by
  have := inS_ws (s := s) (ws := ["named", "flat"]) (.inr rfl)
  rw [← h]; exact this
theorem kinds_n : ∀ (n : Nat) (t : Tr), dpT t ≤ n → szT t ≤ 100000 → ∃ L, L.length = szT t ∧ LisR (Fn_l_kinds Z n [toldT t]) L := by
  have body : ∀ (FF : List D → M S) (t : Tr), szT t ≤ 100000 → (∀ u ∈ limbsT t, ∃ L, L.length = szT u ∧ LisR (FF [toldT u]) L) → ∃ L, L.length = szT t ∧ LisR (fin ((b_l_kinds Z FF).f [.d (toldT t), .un, .un, .un])) L := fun FF t hz hu => by
    have i1 := in_nf (s := "named") (b := true) (by decide)
    have i2 := in_nf (s := "flat") (b := true) (by decide)
    have i3 := in_nf (s := "only") (b := false) (by decide)
    have i4 := in_nf (s := "shifted") (b := false) (by decide)
    have i5 := in_nf (s := "flipped") (b := false) (by decide)
    have i6 := in_nf (s := "joint") (b := false) (by decide)
    cases t with
    | named s => exact ⟨[.str "named"], rfl, .inr (by rw [toldT_named]; simp [b_l_kinds, atI0, i1])⟩
    | flat v => exact ⟨[.str "flat"], rfl, .inr (by rw [toldT_flat]; simp [b_l_kinds, atI0, i2])⟩
    | only t s =>
      obtain ⟨L, hL, h1⟩ := hu t (List.mem_cons_self ..)
      obtain ⟨w, x, r, e, hr⟩ := told_tup t
      unfold szT at hz
      refine ⟨.str "only" :: L, by rw [List.length_cons, hL]; rfl, .inl ?_⟩
      rw [toldT_only, e]
      rw [e] at h1
      have ad : addF (.lst [.str "only"]) (.lst L) = some (.own (.str "only" :: L)) := addF_lst (by simp; omega)
      obtain ⟨a, b⟩ := s
      have hr1 : (1 : Int) < (r.length : Int) + 1 + 1 := by omega
      unfold dS
      cases a <;> cases b <;> rcases h1 with h1 | h1 <;> simp (disch := walk_at "dd") [b_l_kinds, b_l_kinds_l1, atI0, i3, lcF, lcS, hide, forF, h1, ad, dE, hr1]
    | shifted t s =>
      obtain ⟨L, hL, h1⟩ := hu t (List.mem_cons_self ..)
      obtain ⟨w, x, r, e, hr⟩ := told_tup t
      unfold szT at hz
      refine ⟨.str "shifted" :: L, by rw [List.length_cons, hL]; rfl, .inl ?_⟩
      rw [toldT_shifted, e]
      rw [e] at h1
      have ad : addF (.lst [.str "shifted"]) (.lst L) = some (.own (.str "shifted" :: L)) := addF_lst (by simp; omega)
      have hr1 : (1 : Int) < (r.length : Int) + 1 + 1 := by omega
      rcases h1 with h1 | h1 <;> simp (disch := walk_at "dd") [b_l_kinds, b_l_kinds_l1, atI0, i4, lcF, lcS, hide, forF, h1, ad, hr1]
    | flipped t s =>
      obtain ⟨L, hL, h1⟩ := hu t (List.mem_cons_self ..)
      obtain ⟨w, x, r, e, hr⟩ := told_tup t
      unfold szT at hz
      refine ⟨.str "flipped" :: L, by rw [List.length_cons, hL]; rfl, .inl ?_⟩
      rw [toldT_flipped, e]
      rw [e] at h1
      have ad : addF (.lst [.str "flipped"]) (.lst L) = some (.own (.str "flipped" :: L)) := addF_lst (by simp; omega)
      have hr1 : (1 : Int) < (r.length : Int) + 1 + 1 := by omega
      rcases h1 with h1 | h1 <;> simp (disch := walk_at "dd") [b_l_kinds, b_l_kinds_l1, atI0, i5, lcF, lcS, hide, forF, h1, ad, hr1]
    | joint v a b =>
      obtain ⟨L, hL, h1⟩ := hu a (List.mem_cons_self ..)
      obtain ⟨L2, hL2, h2⟩ := hu b (List.mem_cons_of_mem _ (List.mem_cons_self ..))
      obtain ⟨w, x, r, e, hr⟩ := told_tup a
      obtain ⟨w2, x2, r2, e2, hr2⟩ := told_tup b
      unfold szT at hz
      refine ⟨.str "joint" :: (L ++ L2), by rw [List.length_cons, List.length_append, hL, hL2]; rfl, .inl ?_⟩
      rw [toldT_joint, e, e2]
      rw [e] at h1
      rw [e2] at h2
      have ad : addF (.lst [.str "joint"]) (.lst L) = some (.own (.str "joint" :: L)) := addF_lst (by simp; omega)
      have ad2 : addF (.lst (.str "joint" :: L)) (.lst L2) = some (.own (.str "joint" :: (L ++ L2))) := addF_lst (by simp; omega)
      have hr1 : (1 : Int) < (r.length : Int) + 1 + 1 := by omega
      have hr3 : (1 : Int) < (r2.length : Int) + 1 + 1 := by omega
      rcases h1 with h1 | h1 <;> rcases h2 with h2 | h2 <;> simp (disch := walk_at "dd") [b_l_kinds, b_l_kinds_l1, atI0, i6, lcF, lcS, hide, forF, h1, h2, ad, ad2, hr1, hr3]
  intro n
  induction n with
  | zero =>
    intro t h hz
    rw [F_l_kinds_0]
    exact body _ t hz fun u hu => by cases t <;> first | (cases hu; done) | (unfold dpT at h; omega)
  | succ n ih =>
    intro t h hz
    rw [F_l_kinds_s]
    refine body _ t hz fun u hu => ih u ?_ ?_
    · cases t <;> simp [limbsT] at hu <;> unfold dpT at h <;> first | (rcases hu with rfl | rfl <;> omega) | (subst hu; omega)
    · cases t <;> simp [limbsT] at hu <;> unfold szT at hz <;> first | (rcases hu with rfl | rfl <;> omega) | (subst hu; omega)
theorem F_l_kinds_e {t : Tr} (h : dpT t ≤ 13) (hz : szT t ≤ 100000) : ∃ L, L.length = szT t ∧ LisR (F_l_kinds Z [toldT t]) L := kinds_n 13 t h hz

end
section
variable {Z : Zs}
theorem nameO_n : ∀ (n : Nat) (t : Tr), dpT t ≤ n → szT t ≤ 100000 → LisR (Fn_l_names_of Z n [toldT t]) ((namesT t).map D.str) := by
  have body : ∀ (FF : List D → M S) (t : Tr), szT t ≤ 100000 → (∀ u ∈ limbsT t, LisR (FF [toldT u]) ((namesT u).map D.str)) → LisR (fin ((b_l_names_of Z FF).f [.d (toldT t), .un, .un])) ((namesT t).map D.str) := fun FF t hz hu => by
    have nl := namesT_len t
    cases t with
    | named s => exact .inr (by rw [toldT_named]; simp [b_l_names_of, atI0, atI1, namesT])
    | flat v => exact .inl (by rw [toldT_flat]; cases v <;> simp (disch := walk_at "dd") [b_l_names_of, b_l_names_of_l1, atI0, forF, namesT, dE])
    | only t s =>
      have h1 := hu t (List.mem_cons_self ..)
      have nl := namesT_len t
      obtain ⟨w, x, r, e, hr⟩ := told_tup t
      unfold szT at hz
      refine .inl ?_
      rw [toldT_only, e]
      rw [e] at h1
      unfold namesT
      have ad : addF (.lst []) (.lst ((namesT t).map D.str)) = some (.own ((namesT t).map D.str)) := addF_lst (by simp; omega)
      obtain ⟨a, b⟩ := s
      have hr1 : (1 : Int) < (r.length : Int) + 1 + 1 := by omega
      generalize (namesT t).map D.str = L at *
      unfold dS
      cases a <;> cases b <;> rcases h1 with h1 | h1 <;> simp (disch := walk_at "dd") [b_l_names_of, b_l_names_of_l1, atI0, forF, h1, ad, dE, hr1]
    | shifted t s =>
      have h1 := hu t (List.mem_cons_self ..)
      have nl := namesT_len t
      obtain ⟨w, x, r, e, hr⟩ := told_tup t
      unfold szT at hz
      refine .inl ?_
      rw [toldT_shifted, e]
      rw [e] at h1
      unfold namesT
      have ad : addF (.lst []) (.lst ((namesT t).map D.str)) = some (.own ((namesT t).map D.str)) := addF_lst (by simp; omega)
      have hr1 : (1 : Int) < (r.length : Int) + 1 + 1 := by omega
      generalize (namesT t).map D.str = L at *
      rcases h1 with h1 | h1 <;> simp (disch := walk_at "dd") [b_l_names_of, b_l_names_of_l1, atI0, forF, h1, ad, hr1]
    | flipped t s =>
      have h1 := hu t (List.mem_cons_self ..)
      have nl := namesT_len t
      obtain ⟨w, x, r, e, hr⟩ := told_tup t
      unfold szT at hz
      refine .inl ?_
      rw [toldT_flipped, e]
      rw [e] at h1
      unfold namesT
      have ad : addF (.lst []) (.lst ((namesT t).map D.str)) = some (.own ((namesT t).map D.str)) := addF_lst (by simp; omega)
      have hr1 : (1 : Int) < (r.length : Int) + 1 + 1 := by omega
      generalize (namesT t).map D.str = L at *
      rcases h1 with h1 | h1 <;> simp (disch := walk_at "dd") [b_l_names_of, b_l_names_of_l1, atI0, forF, h1, ad, hr1]
    | joint v a b =>
      have h1 := hu a (List.mem_cons_self ..)
      have h2 := hu b (List.mem_cons_of_mem _ (List.mem_cons_self ..))
      have na := namesT_len a
      have nb := namesT_len b
      obtain ⟨w, x, r, e, hr⟩ := told_tup a
      obtain ⟨w2, x2, r2, e2, hr2⟩ := told_tup b
      unfold szT at hz
      refine .inl ?_
      rw [toldT_joint, e, e2]
      rw [e] at h1
      rw [e2] at h2
      unfold namesT
      rw [List.map_append]
      have ad : addF (.lst []) (.lst ((namesT a).map D.str)) = some (.own ((namesT a).map D.str)) := addF_lst (by simp; omega)
      have ad2 : addF (.lst ((namesT a).map D.str)) (.lst ((namesT b).map D.str)) = some (.own ((namesT a).map D.str ++ (namesT b).map D.str)) := addF_lst (by simp; omega)
      have hr1 : (1 : Int) < (r.length : Int) + 1 + 1 := by omega
      have hr3 : (1 : Int) < (r2.length : Int) + 1 + 1 := by omega
      generalize (namesT a).map D.str = L at *
      generalize (namesT b).map D.str = L2 at *
      rcases h1 with h1 | h1 <;> rcases h2 with h2 | h2 <;> simp (disch := walk_at "dd") [b_l_names_of, b_l_names_of_l1, atI0, forF, h1, h2, ad, ad2, hr1, hr3]
  intro n
  induction n with
  | zero =>
    intro t h hz
    rw [F_l_names_of_0]
    exact body _ t hz fun u hu => by cases t <;> first | (cases hu; done) | (unfold dpT at h; omega)
  | succ n ih =>
    intro t h hz
    rw [F_l_names_of_s]
    refine body _ t hz fun u hu => ih u ?_ ?_
    · cases t <;> simp [limbsT] at hu <;> unfold dpT at h <;> first | (rcases hu with rfl | rfl <;> omega) | (subst hu; omega)
    · cases t <;> simp [limbsT] at hu <;> unfold szT at hz <;> first | (rcases hu with rfl | rfl <;> omega) | (subst hu; omega)
theorem F_l_names_of_e {t : Tr} (h : dpT t ≤ 13) (hz : szT t ≤ 100000) : LisR (F_l_names_of Z [toldT t]) ((namesT t).map D.str) := nameO_n 13 t h hz

end
section
variable {Z : Zs}
theorem neq_sp (s : Sp2) : neF2 (dS s) (dS s) = some (.d (.bl false)) :=
  ne_self (pur_dS' s) (by rw [dep_dS']; omega) fun zs z => by unfold dS at z; cases z
theorem fields_n : ∀ (n : Nat) (t : Tr), okT t → dpT t ≤ n → Fn_l_fields_right Z n [objT Z t, toldT t] = .ok (.d (.bl true)) := by
  have body : ∀ (FF : List D → M S) (t : Tr), okT t → (∀ u ∈ limbsT t, FF [objT Z u, toldT u] = .ok (.d (.bl true))) → fin ((b_l_fields_right Z FF).f [.d (objT Z t), .d (toldT t), .un, .un]) = .ok (.d (.bl true)) := fun FF t ho hu => by
    cases t with
    | named s => rw [toldT_named, objT_named]; simp [b_l_fields_right, atI0, atI1, fc_name, List.lookup]
    | flat v => rw [toldT_flat, objT_flat]; cases v <;> simp [b_l_fields_right, atI0, atI1, fc_value, List.lookup, dE, isNon]
    | only t s =>
      have h1 := hu t (List.mem_cons_self ..)
      have n1 := neq_sp s
      rw [toldT_only, objT_only]
      generalize toldT t = T at *
      generalize objT Z t = O at *
      generalize dS s = V at *
      simp [b_l_fields_right, atI0, atI1, atI2, fc_span, fc_tree, List.lookup, h1, n1]
    | shifted t s =>
      have h1 := hu t (List.mem_cons_self ..)
      rw [toldT_shifted, objT_shifted]
      generalize toldT t = T at *
      generalize objT Z t = O at *
      simp [b_l_fields_right, atI0, atI1, atI2, fc_by, fc_tree, List.lookup, h1]
    | flipped t s =>
      have h1 := hu t (List.mem_cons_self ..)
      rw [toldT_flipped, objT_flipped]
      generalize toldT t = T at *
      generalize objT Z t = O at *
      simp [b_l_fields_right, atI0, atI1, atI2, fc_about, fc_tree, List.lookup, h1]
    | joint w a b =>
      have h1 := hu a (List.mem_cons_self ..)
      have h2 := hu b (List.mem_cons_of_mem _ (List.mem_cons_self ..))
      rw [toldT_joint, objT_joint]
      generalize toldT a = T at *
      generalize objT Z a = O at *
      generalize toldT b = T2 at *
      generalize objT Z b = O2 at *
      simp [b_l_fields_right, atI0, atI1, atI2, atI3, fc_title, fc_one, fc_other, List.lookup, h1, h2]
  intro n
  induction n with
  | zero =>
    intro t ho h
    rw [F_l_fields_right_0]
    exact body _ t ho fun u hu => by cases t <;> first | (cases hu; done) | (unfold dpT at h; omega)
  | succ n ih =>
    intro t ho h
    rw [F_l_fields_right_s]
    refine body _ t ho fun u hu => ih u ?_ ?_
    · cases t <;> simp [limbsT] at hu <;> first | (rcases hu with rfl | rfl; exact ho.2.1; exact ho.2.2) | (subst hu; exact ho.1) | (subst hu; exact ho)
    · cases t <;> simp [limbsT] at hu <;> unfold dpT at h <;> first | (rcases hu with rfl | rfl <;> omega) | (subst hu; omega)
theorem F_l_fields_right_v {t : Tr} (h : okT t) (hd : dpT t ≤ 13) : F_l_fields_right Z [objT Z t, toldT t] = .ok (.d (.bl true)) := fields_n 13 t h hd

end
section
variable {Z : Zs}
def oddS : List Str := ["", "A", "a1", "abcdefghi", "a b", "flat", "only", "shifted", "flipped", "over", "where", "without", "sum", "less", "least", "greatest", "same", "a
", "-"]
theorem oddS_ok : ∀ s ∈ oddS, s.length ≤ 1000 ∧ nameB s = false ∧ ∀ c ∈ s.cps.toList, PyData.strOk ⟨#[c]⟩ = true := by decide +kernel
theorem oddD_ok : ∀ x ∈ ([.str "", .str "A", .str "a1", .str "abcdefghi", .str "a b", .non, .int 5, .lst [.str "a"], .str "flat", .str "only", .str "shifted", .str "flipped", .str "over", .str "where", .str "without", .str "sum", .str "less", .str "least", .str "greatest", .str "same", .str "a
", .str "-", .tup [.str "a"], .bl true] : List D), (∃ s ∈ oddS, x = .str s) ∨ (known x = true ∧ isTy x "str" = false) := by
  intro x hx
  simp only [List.mem_cons, List.not_mem_nil, or_false] at hx
  rcases hx with rfl | rfl | rfl | rfl | rfl | rfl | rfl | rfl | rfl | rfl | rfl | rfl | rfl | rfl | rfl | rfl | rfl | rfl | rfl | rfl | rfl | rfl | rfl | rfl <;> first | (refine .inl ⟨_, ?_, rfl⟩; unfold oddS; decide +kernel) | (refine .inr ⟨rfl, ?_⟩; rfl)
theorem F_l_odd_name_e {c : Int} : ∃ x, F_l_odd_name Z [.int c] = .ok (.d x) ∧ ((∃ s ∈ oddS, x = .str s) ∨ (known x = true ∧ isTy x "str" = false)) := by
  have q := emod_in c (m := 24) (by decide)
  obtain ⟨x, hx, hp⟩ := atI_ex (fun x : D => (∃ s ∈ oddS, x = .str s) ∨ (known x = true ∧ isTy x "str" = false)) (xs := [.str "", .str "A", .str "a1", .str "abcdefghi", .str "a b", .non, .int 5, .lst [.str "a"], .str "flat", .str "only", .str "shifted", .str "flipped", .str "over", .str "where", .str "without", .str "sum", .str "less", .str "least", .str "greatest", .str "same", .str "a
", .str "-", .tup [.str "a"], .bl true]) q.1 (by show c % 24 < 24; omega) oddD_ok
  have ad : addF (.lst [.str "", .str "A", .str "a1", .str "abcdefghi", .str "a b", .non, .int 5, .lst [.str "a"], .str "flat", .str "only", .str "shifted", .str "flipped", .str "over", .str "where"]) (.lst [.str "without", .str "sum", .str "less", .str "least", .str "greatest", .str "same", .str "a
", .str "-", .tup [.str "a"], .bl true]) = some (.own [.str "", .str "A", .str "a1", .str "abcdefghi", .str "a b", .non, .int 5, .lst [.str "a"], .str "flat", .str "only", .str "shifted", .str "flipped", .str "over", .str "where", .str "without", .str "sum", .str "less", .str "least", .str "greatest", .str "same", .str "a
", .str "-", .tup [.str "a"], .bl true]) := addF_lst (by simp)
  refine ⟨x, ?_, hp⟩
  simp (disch := walk_at "dd") [F_l_odd_name_eq, b_l_odd_name, ad, hx]

end
section
variable {Z : Zs}
theorem F_l_is_name_v {s : Str} (hl : s.length ≤ 1000) (hok : ∀ c ∈ s.cps.toList, PyData.strOk ⟨#[c]⟩ = true) : F_l_is_name Z [.str s] = .ok (.d (.bl (nameB s))) := by
  have tt := F_l_titles_v (Z := Z)
  have i1 := inS_ws (s := s) (ws := keptL) (.inr rfl)
  have i2 := inS_ws (s := s) (ws := titleL) (.inr rfl)
  unfold keptL at i1
  simp only [List.map] at i1
  have hh : hide [.d (.str s), .un] [1] = ([.d (.str s), .un] : List S) := rfl
  have lc : lcF (lcS (SG.name 1) (.of (.op oNotIn (.var 1) (.str "abcdefghijklmnopqrstuvwxyz")) : ST (HY Z)) (.var 1) [.d (.str s), .un]) (chD s) = .ok ((s.cps.toList.filter fun c => !decide (c ∈ smallL)).map fun c => D.str ⟨#[c]⟩) := by
    unfold chD
    generalize s.cps.toList = L
    induction L with
    | nil => simp [lcF]
    | cons c r ih =>
      have := small_in c
      by_cases q : c ∈ smallL
      · rw [List.map_cons, List.filter_cons_of_neg (by simp [q])]
        simp [lcF, lcS, this, q]
        rw [ih]; simp
      · rw [List.map_cons, List.filter_cons_of_pos (by simp [q]), List.map_cons]
        simp [lcF, lcS, this, q]
        rw [ih]; simp
  have hch : (chD s).length ≤ 16777216 := by unfold chD; rw [List.length_map, Array.length_toList]; have : s.cps.size = s.length := rfl; omega
  have le : lenF [.str s] = some (.d (.int s.length)) := if_pos (by rw [sizeLine_eq]; omega)
  have em : (s.cps.toList.filter fun c => !decide (c ∈ smallL)) = [] ↔ (s.cps.toList.all fun c => decide (c ∈ smallL)) = true := by
    rw [List.filter_eq_nil_iff, List.all_eq_true]
    simp
  have eqq : eqF2 (.lst ((s.cps.toList.filter fun c => !decide (c ∈ smallL)).map fun c => D.str ⟨#[c]⟩)) (.lst []) = some (.d (.bl (s.cps.toList.all fun c => decide (c ∈ smallL)))) := by
    rw [eq_signs fun c hc => hok c (List.mem_filter.mp hc).1]
    congr 3
    rw [Bool.eq_iff_iff, List.isEmpty_iff, em]
  have hlen : ((s.cps.toList.filter fun c => !decide (c ∈ smallL)).map fun c => D.str ⟨#[c]⟩).length ≤ 16777216 := by
    rw [List.length_map]
    have h1 := List.length_filter_le (fun c => !decide (c ∈ smallL)) s.cps.toList
    have h2 : s.cps.toList.length = s.length := Array.length_toList ..
    rw [h2] at h1
    exact Nat.le_trans h1 (by omega)
  have nb : nameB s = (decide (1 ≤ s.length ∧ s.length ≤ 8) && (s.cps.toList.all fun c => decide (c ∈ smallL)) && !(decide (s ∈ (["flat", "only", "shifted", "flipped"] : List Str)) || decide (s ∈ titleL))) := rfl
  rw [nb]
  generalize ((s.cps.toList.filter fun c => !decide (c ∈ smallL)).map fun c => D.str ⟨#[c]⟩) = L at *
  generalize (s.cps.toList.all fun c => decide (c ∈ smallL)) = b1 at *
  generalize decide (s ∈ (["flat", "only", "shifted", "flipped"] : List Str)) = b2 at *
  generalize decide (s ∈ titleL) = b3 at *
  generalize titleL.map D.str = TL at *
  by_cases h : 1 ≤ s.length ∧ s.length ≤ 8
  · have g1 : (1 : Int) ≤ (s.length : Int) := by omega
    have g2 : (s.length : Int) ≤ 8 := by omega
    cases b3 <;> cases b2 <;> simp (disch := walk_at "dd") [F_l_is_name_eq, b_l_is_name, hh, lc, tt, i1, i2, h, g1, g2, hlen, le, hch, eqq]
  · by_cases g1 : (1 : Int) ≤ (s.length : Int)
    · have g2 : ¬ (s.length : Int) ≤ 8 := fun z => h ⟨by omega, by omega⟩
      simp (disch := walk_at "dd") [F_l_is_name_eq, b_l_is_name, h, g1, g2, le]
    · simp (disch := walk_at "dd") [F_l_is_name_eq, b_l_is_name, h, g1, le]
theorem F_l_is_name_x {x : D} (hk : known x = true) (h : isTy x "str" = false) : F_l_is_name Z [x] = .ok (.d (.bl false)) := by
  simp [F_l_is_name_eq, b_l_is_name, hk, h]

end
section
variable {Z : Zs}
theorem odd_no {x : D} (h : (∃ s ∈ oddS, x = .str s) ∨ (known x = true ∧ isTy x "str" = false)) : F_is_name Z [x] = .ok (.d (.bl false)) := by
  rcases h with ⟨s, hs, rfl⟩ | ⟨hk, ht⟩
  · obtain ⟨h1, h2, h3⟩ := oddS_ok s hs
    have a := F_is_name_v (Z := Z) h1
    rw [h2] at a
    exact a
  · exact F_is_name_x hk ht
theorem F_l_wrong_x {c : Int} : F_l_wrong Z [.int c] = .ex Z.NoTree [] := by
  have q := emod_in c (m := 9) (by decide)
  have q7 := emod_in (c / 9) (m := 7) (by decide)
  have q5 := emod_in (c / 9) (m := 5) (by decide)
  have q8 := emod_in (c / 9) (m := 8) (by decide)
  have q2 := emod_in (c / 100) (m := 2) (by decide)
  have g := F_Flat_init_v (Z := Z) (v := some 5)
  have g : mkR (F_Flat_init Z) [.int 5] = .ok [("value", .int 5)] := g
  obtain ⟨G, hG⟩ : ∃ G : D, G = objT Z (.flat (some 5)) := ⟨_, rfl⟩
  have hG2 : D.ins Z.Flat [("value", .int 5)] = G := hG.symm
  obtain ⟨o, ho, ok⟩ := atI_ex (fun x : D => known x = true) (xs := [D.non, .str "a", .int 5, .tup [.str "flat", .int 5], .lst [.str "a"], .dK [], .bl true]) q7.1 (by show c / 9 % 7 < 7; omega) (by
    intro x hx
    simp only [List.mem_cons, List.not_mem_nil, or_false] at hx
    rcases hx with rfl | rfl | rfl | rfl | rfl | rfl | rfl <;> rfl)
  obtain ⟨s, hs, sk, ska, sn⟩ := atI_ex (fun x : D => known x = true ∧ knownAll x = true ∧ isSp x = false) (xs := [D.tup [.int 3, .int 2], .tup [.int 1], .lst [.int 1, .int 2], .non, .str "..", .tup [.bl true, .int 5], .int 7]) q7.1 (by show c / 9 % 7 < 7; omega) (by
    intro x hx
    simp only [List.mem_cons, List.not_mem_nil, or_false] at hx
    rcases hx with rfl | rfl | rfl | rfl | rfl | rfl | rfl <;> exact ⟨rfl, rfl, by simp [isSp, isE, isPl, leE, isTy_str_int, isTy_bl_bool, isTy_tup_int, isTy_lst_int, isNon]⟩)
  obtain ⟨p, hp, pk, pn⟩ := atI_ex (fun x : D => known x = true ∧ isPl x = false) (xs := [D.non, .bl true, .str "5", .tup [.int 5], .lst [.int 5]]) q5.1 (by show c / 9 % 5 < 5; omega) (by
    intro x hx
    simp only [List.mem_cons, List.not_mem_nil, or_false] at hx
    rcases hx with rfl | rfl | rfl | rfl | rfl <;> exact ⟨rfl, by simp [isPl, isTy_str_int, isTy_bl_bool, isTy_tup_int, isTy_lst_int, isNon]⟩)
  obtain ⟨v, hv, vk, vn⟩ := atI_ex (fun x : D => known x = true ∧ isE x = false) (xs := [D.bl true, .str "5", .tup [.int 5], .lst [.non], .bl false]) q5.1 (by show c / 9 % 5 < 5; omega) (by
    intro x hx
    simp only [List.mem_cons, List.not_mem_nil, or_false] at hx
    rcases hx with rfl | rfl | rfl | rfl | rfl <;> exact ⟨rfl, by simp [isE, isPl, isTy_str_int, isTy_bl_bool, isTy_tup_int, isTy_lst_int, isNon]⟩)
  obtain ⟨t, ht, htn⟩ := atI_ex (fun x : D => (∃ w, x = .str w ∧ byK w = none) ∨ (known x = true ∧ isTy x "str" = false)) (xs := [D.str "turned", .str "Over", .str "", .non, .int 5, .str "named", .str "flat", .lst [.str "over"]]) q8.1 (by show c / 9 % 8 < 8; omega) (by
    intro x hx
    simp only [List.mem_cons, List.not_mem_nil, or_false] at hx
    rcases hx with rfl | rfl | rfl | rfl | rfl | rfl | rfl | rfl <;> first | (refine .inl ⟨_, rfl, ?_⟩; decide +kernel) | (refine .inr ⟨rfl, ?_⟩; rfl))
  obtain ⟨x, hx, nx⟩ := F_l_odd_name_e (Z := Z) (c := c / 9)
  have nx := odd_no (Z := Z) nx
  obtain ⟨m, hm, mc⟩ : ∃ m, L2.atI [o, G] (c / 100 % 2) = some m ∧ (m = o ∨ m = G) := by
    have : c / 100 % 2 = 0 ∨ c / 100 % 2 = 1 := by omega
    rcases this with z | z <;> rw [z]
    · exact ⟨_, rfl, .inl rfl⟩
    · exact ⟨_, rfl, .inr rfl⟩
  have r0 := F_Named_init_x nx
  have r1 := F_Flat_init_x (Z := Z) vk vn
  have r2 := F_Only_init_y (Z := Z) (y := .tup [.int 1, .int 2]) ok
  have r3 := F_Only_init_x (Z := Z) (t := .flat (some 5)) sk ska sn
  rw [← hG] at r3
  have r4 : mkR (F_Shifted_init Z) [m, p] = .ex Z.NoTree [] := by
    rcases mc with rfl | rfl
    · exact F_Shifted_init_y ok
    · rw [hG]; exact F_Shifted_init_x pk pn
  have r5 : mkR (F_Flipped_init Z) [m, p] = .ex Z.NoTree [] := by
    rcases mc with rfl | rfl
    · exact F_Flipped_init_y ok
    · rw [hG]; exact F_Flipped_init_x pk pn
  have r6 : mkR (F_Joint_init Z) [t, G, G] = .ex Z.NoTree [] := by
    rcases htn with ⟨w, rfl, hw⟩ | ⟨k, ks⟩
    · exact F_Joint_init_x hw
    · exact F_Joint_init_y k ks
  have r7 := F_Joint_init_z (Z := Z) (w := "over") (a := .flat (some 5)) (x := o) (by decide) ok
  rw [← hG] at r7
  have e : c % 9 = 0 ∨ c % 9 = 1 ∨ c % 9 = 2 ∨ c % 9 = 3 ∨ c % 9 = 4 ∨ c % 9 = 5 ∨ c % 9 = 6 ∨ c % 9 = 7 ∨ c % 9 = 8 := by omega
  clear hG
  rcases e with e | e | e | e | e | e | e | e | e <;> simp (disch := walk_at "dd") [F_l_wrong_eq, b_l_wrong, g, hG2, ho, hs, hp, hv, ht, hx, hm, e, r0, r1, r2, r3, r4, r5, r6, r7.1, r7.2]

end
section
variable {Z : Zs}
theorem deep_turn {ns : List Int} {b : Int} {k : Nat} {t : Tr} (hl : ns.length ≤ 63) (ht : okT t) : ∃ u : Tr, okT u ∧ dpT u ≤ max (dpT t) 1 + 1 ∧ szT u ≤ szT t + 4 ∧ ∃ δ1 δ2, (SG.name 3 : SG (HY Z)).f [.d (scrD ns), .d (.int b), .d (toldT t), .un, .un, .un, .un, .un, .un] (.int (k : Int)) = some δ1 ∧ (b_l_deep_tree_l1 Z).f δ1 = .nx δ2 ∧ wpF [3, 4, 5, 6, 7, 8] δ2 = [.d (scrD ns), .d (.int b), .d (toldT u), .un, .un, .un, .un, .un, .un] := by
  have c1 := F_l_cell_v (Z := Z) (k := b + 3 + (k : Int)) hl
  generalize cell ns (b + 3 + (k : Int)) = c at *
  obtain ⟨o, o1, o2, o3, o4⟩ := F_l_tree_e (Z := Z) (base := b + 20 + 4 * (k : Int)) (node := 1) (deep := min k 1) hl (by omega)
  have em : ((min k 1 : Nat) : Int) = min (k : Int) 1 := by omega
  rw [em] at o4
  have oz : szT o ≤ 3 := by
    have : min k 1 = 0 ∨ min k 1 = 1 := by omega
    rcases this with z | z <;> rw [z] at o3 <;> simp at o3 <;> omega
  have od : dpT o ≤ 1 := by omega
  have q8 := emod_in (c / 10) (m := 8) (by decide)
  obtain ⟨tw, htw, hta⟩ := str_at (ws := titleL) q8.1 (by show c / 10 % 8 < 8; omega)
  obtain ⟨sp, hsp, hs⟩ := F_l_near_span_e (Z := Z) (c := c / 10)
  have tt := F_l_titles_v (Z := Z)
  have q5 := emod_in c (m := 5) (by decide)
  obtain ⟨n, hn⟩ : ∃ n : Int, n = c / 10 % 15 - 7 := ⟨_, rfl⟩
  have ad : ∀ A B C E F : D, addF (.lst [A, B, C]) (.lst [E, F]) = some (.own [A, B, C, E, F]) := fun A B C E F => addF_lst (by simp)
  obtain ⟨x, hx, u, hu, u1, u2, u3⟩ := atI_ex (fun x : D => ∃ u : Tr, x = toldT u ∧ okT u ∧ dpT u ≤ max (dpT t) 1 + 1 ∧ szT u ≤ szT t + 4) (xs := [toldT (.only t sp), toldT (.shifted t n), toldT (.flipped t n), toldT (.joint tw t o), toldT (.joint tw o t)]) q5.1 (by show c % 5 < 5; omega) (fun x hx => by
    simp only [List.mem_cons, List.not_mem_nil, or_false] at hx
    rcases hx with rfl | rfl | rfl | rfl | rfl
    · exact ⟨_, rfl, ⟨ht, hsp⟩, by show dpT t + 1 ≤ _; omega, by show szT t + 1 ≤ _; omega⟩
    · exact ⟨_, rfl, ht, by show dpT t + 1 ≤ _; omega, by show szT t + 1 ≤ _; omega⟩
    · exact ⟨_, rfl, ht, by show dpT t + 1 ≤ _; omega, by show szT t + 1 ≤ _; omega⟩
    · exact ⟨_, rfl, ⟨htw, ht, o1⟩, by show max (dpT t) (dpT o) + 1 ≤ _; omega, by show szT t + szT o + 1 ≤ _; omega⟩
    · exact ⟨_, rfl, ⟨htw, o1, ht⟩, by show max (dpT o) (dpT t) + 1 ≤ _; omega, by show szT o + szT t + 1 ≤ _; omega⟩)
  refine ⟨u, u1, u2, u3, ?_⟩
  rw [← hu]
  simp only [toldT_only, toldT_shifted, toldT_flipped, toldT_joint] at hx
  rw [hn] at hx
  generalize toldT t = T at *
  generalize toldT o = O at *
  generalize dS sp = SP at *
  generalize titleL.map D.str = TL at *
  exact ⟨_, _, by simp; rfl, by simp (disch := walk_at "dd") [b_l_deep_tree_l1, c1, o4, hs, tt, hta, ad, hx]; rfl, by simp⟩
theorem F_l_deep_tree_e {ns : List Int} {b : Int} (hl : ns.length ≤ 63) : ∃ t : Tr, okT t ∧ dpT t ≤ 12 ∧ szT t ≤ 60 ∧ F_l_deep_tree Z [scrD ns, .int b] = .ok (.d (toldT t)) := by
  obtain ⟨t0, a1, a2, a3, a4⟩ := F_l_tree_e (Z := Z) (base := b) (node := 1) (deep := 0) hl (by omega)
  have c0 := F_l_cell_v (Z := Z) (k := b + 2) hl
  generalize cell ns (b + 2) = c at *
  have q7 := emod_in c (m := 7) (by decide)
  have z1 : szT t0 ≤ 1 := by simp at a3; omega
  obtain ⟨t, e1, e2, e3, lp⟩ : ∃ t : Tr, okT t ∧ dpT t ≤ (5 + c % 7).toNat + 1 ∧ szT t ≤ 1 + 4 * (5 + c % 7).toNat ∧ forF (SG.name 3 : SG (HY Z)).f (b_l_deep_tree_l1 Z).f [3, 4, 5, 6, 7, 8] (rg 0 (5 + c % 7).toNat) [.d (scrD ns), .d (.int b), .d (toldT t0), .un, .un, .un, .un, .un, .un] = .nx [.d (scrD ns), .d (.int b), .d (toldT t), .un, .un, .un, .un, .un, .un] :=
    forF_pred (R := fun r => ∃ t : Tr, okT t ∧ dpT t ≤ (5 + c % 7).toNat + 1 ∧ szT t ≤ 1 + 4 * (5 + c % 7).toNat ∧ r = .nx [.d (scrD ns), .d (.int b), .d (toldT t), .un, .un, .un, .un, .un, .un]) (P := fun i δ => ∃ t : Tr, okT t ∧ dpT t ≤ i + 1 ∧ szT t ≤ 1 + 4 * i ∧ δ = [.d (scrD ns), .d (.int b), .d (toldT t), .un, .un, .un, .un, .un, .un]) (fun i y δ hy ⟨t, e1, e2, e3, e4⟩ => by
      obtain ⟨hi, rfl⟩ := rg_get hy
      subst e4
      obtain ⟨u, u1, u2, u3, δ1, δ2, h2, h3, h4⟩ := deep_turn (Z := Z) (ns := ns) (b := b) (k := i) hl e1
      have hz : (0 : Int) + (i : Int) = i := by omega
      rw [hz]
      exact ⟨δ1, h2, .inl ⟨δ2, .inl h3, u, u1, by omega, by omega, h4⟩⟩) (fun δ ⟨t, e1, e2, e3, e4⟩ => ⟨t, e1, by rw [rg_len] at e2; exact e2, by rw [rg_len] at e3; exact e3, by rw [e4]⟩) ⟨t0, a1, by omega, by omega, rfl⟩
  refine ⟨t, e1, by omega, by omega, ?_⟩
  have hir : inR (5 + c % 7) = true := inR_s (by omega) (by omega)
  generalize toldT t0 = T0 at *
  generalize toldT t = T at *
  have a4 : F_l_tree Z [scrD ns, .int b, .int 1, .int 0] = .ok (.d T0) := a4
  simp (disch := walk_at "dd") [F_l_deep_tree_eq, b_l_deep_tree, a4, c0, hir, lp]

end
section
variable {Z : Zs}
theorem less_in : ("less" : Str) ∈ titleL := by decide
theorem F_l_twice_right_v {t : Tr} (ho : okT t) (hd : dpT t ≤ 10) (hz : szT t ≤ 1000) : F_l_twice_right Z [objT Z t, toldT t] = .ok (.d (.bl true)) := by
  obtain ⟨B, hB⟩ : ∃ B : Tr, B = .joint "less" t (.only (.shifted t 40) (none, some 3)) := ⟨_, rfl⟩
  have oB : okT B := by rw [hB]; exact ⟨less_in, ho, ho, fun a b h => nomatch h⟩
  have dB : dpT B ≤ 13 := by rw [hB]; show max (dpT t) (dpT t + 1 + 1) + 1 ≤ 13; omega
  have zB : szT B = 2 * szT t + 3 := by rw [hB]; show szT t + (szT t + 1 + 1) + 1 = _; omega
  have nB : ∀ k, k ∈ namesT B ↔ k ∈ namesT t := fun k => by rw [hB]; show k ∈ namesT t ++ namesT t ↔ _; simp
  have m1 := F_Shifted_init_v (Z := Z) (t := t) (n := 40)
  have m2 := F_Only_init_v (Z := Z) (t := .shifted t 40) (s := (none, some 3)) (fun a b h => nomatch h)
  have m3 := F_Joint_init_v (Z := Z) (w := "less") (a := t) (b := .only (.shifted t 40) (none, some 3)) less_in
  have eB : objT Z B = .ins Z.Joint [("title", .str "less"), ("one", objT Z t), ("other", .ins Z.Only [("tree", .ins Z.Shifted [("tree", objT Z t), ("by", .int 40)]), ("span", .tup [.non, .int 3])])] := by rw [hB]; rfl
  have tB : toldT B = .tup [.str "joint", .str "less", toldT t, .tup [.str "only", .tup [.str "shifted", toldT t, .int 40], .tup [.non, .int 3]]] := by rw [hB]; rfl
  have d3 : dS ((none, some 3) : Sp2) = .tup [.non, .int 3] := rfl
  simp only [objT_only, objT_shifted, d3] at m2 m3
  obtain ⟨L, hL, hk⟩ := F_l_kinds_e (Z := Z) (t := t) (by omega) (by omega)
  have fr := F_l_fields_right_v (Z := Z) oB dB
  have pn := F_parts_in_v (Z := Z) dB (by omega)
  have nn := F_names_in_v (Z := Z) dB (by omega)
  have no := F_l_names_of_e (Z := Z) (t := t) (by omega) (by omega)
  have nl := namesT_len t
  have so := sortTF_ss (ss := namesT t) (by omega)
  have sc : sortT (namesT B) = sortT (namesT t) := sortT_congr nB
  rw [sc] at nn
  have es := (eq_strs (ss := sortT (namesT t)) fun s hs => name_ok s (namesT_ok ho s (sortT_mem hs))).2
  have sl : ((sortT (namesT t)).map D.str).length < 16777216 := by have := sortT_len (namesT t); rw [List.length_map]; omega
  have ne := ne_toldT oB (by omega)
  have e : b_l_twice_right Z = .seq (.setD 2 (.make Z.Joint (F_Joint_init Z) (.cons (.str "less") (.cons (.var 0) (.cons (.make Z.Only (F_Only_init Z) (.cons (.make Z.Shifted (F_Shifted_init Z) (.cons (.var 0) (.cons (.int 40) .nil))) (.cons (.tup (.cons .non (.cons (.int 3) .nil))) .nil))) .nil)))))
    (.seq (.setD 3 (.tup (.cons (.str "joint") (.cons (.str "less") (.cons (.var 1) (.cons (.tup (.cons (.str "only") (.cons (.tup (.cons (.str "shifted") (.cons (.var 1) (.cons (.int 40) .nil)))) (.cons (.tup (.cons .non (.cons (.int 3) .nil))) .nil)))) .nil))))))
    (.seq (.setD 4 (.cb bLen (.cons (.call (F_l_kinds Z) (.cons (.var 1) .nil)) .nil)))
    (.seq (.appT (.call (F_names_in Z) (.cons (.var 2) .nil)) (.str "zz"))
    (.seq (.ite (.or (.of (.op oNe (tellE Z (Fg_0 Z 13) (.var 2)) (.var 3))) (.not (.tru (.call (F_l_fields_right Z) (.cons (.var 2) (.cons (.var 3) .nil))))))
    (.ret (.bl false))
    .skip)
    (.ret (.andE (.op oEq (.call (F_parts_in Z) (.cons (.var 2) .nil)) (.op oAdd (.op oMul (.int 2) (.var 4)) (.int 3))) (.op oEq (.call (F_names_in Z) (.cons (.var 2) .nil)) (.sortTx (.call (F_l_names_of Z) (.cons (.var 1) .nil)))))))))) := rfl
  have te : ∀ δ : List S, δ = [.d (objT Z t), .d (toldT t), .d (objT Z B), .d (toldT B), .d (.int (szT t : Int))] → (tellE Z (Fg_0 Z 13) (.var 2)).f δ = .ok (.d (toldT B)) := fun δ hδ => tellE_f (by rw [hδ]; simp) (tells_all B 13 dB)
  have te := te _ rfl
  rw [F_l_twice_right_eq, e]
  rw [zB] at pn
  have pe : (2 : Int) * (szT t : Int) + 3 = ((2 * szT t + 3 : Nat) : Int) := by omega
  rw [← pe] at pn
  rw [← hL] at *
  generalize tellE Z (Fg_0 Z 13) (.var 2) = TE at *
  generalize (namesT t).map D.str = NS at *
  generalize (sortT (namesT t)).map D.str = SN at *
  clear hB
  generalize objT Z B = OB at *
  generalize toldT B = TB1 at *
  generalize objT Z t = O at *
  generalize toldT t = T at *
  rcases hk with hk | hk <;> rcases no with no | no <;> simp (disch := walk_at "dd") [m1, m2, m3, ← eB, ← tB, hk, nn, sl, te, ne, fr, pn, no, so, es]

end
section
variable {Z : Zs}
noncomputable def tail91 (Z : Zs) : SS (HY Z) := (.seq (.setD 4 (.call (F_l_made Z) (.cons (.var 3) .nil)))
  (.seq (.ite (.or (.not (.tru (.cb (bIsi (TB Z) (TB_ok Z)) (.cons (.var 4) (.cons (.cls Z.Tree) .nil))))) (.or (.of (.op oNe (tellE Z (Fg_0 Z 13) (.var 4)) (.var 3))) (.not (.tru (.cb (bIsi (TB Z) (TB_ok Z)) (.cons (tellE Z (Fg_0 Z 13) (.var 4)) (.cons (.ty "tuple") .nil)))))))
  (.ret (.bl false))
  .skip)
  (.seq (.ite (.not (.tru (.call (F_l_fields_right Z) (.cons (.var 4) (.cons (.var 3) .nil)))))
  (.ret (.bl false))
  .skip)
  (.seq (.ite (.or (.of (.op oNe (.call (F_parts_in Z) (.cons (.var 4) .nil)) (.cb bLen (.cons (.call (F_l_kinds Z) (.cons (.var 3) .nil)) .nil)))) (.of (.op oNe (.call (F_names_in Z) (.cons (.var 4) .nil)) (.sortTx (.call (F_l_names_of Z) (.cons (.var 3) .nil))))))
  (.ret (.bl false))
  .skip)
  (.ite (.and (.of (.op oNe (.op oMod (.op oDiv (.var 2) (.int 5)) (.int 8)) (.int 3))) (.and (.of (.op oLt (.cb bLen (.cons (.call (F_l_kinds Z) (.cons (.var 3) .nil)) .nil)) (.int 28))) (.not (.tru (.call (F_l_twice_right Z) (.cons (.var 4) (.cons (.var 3) .nil)))))))
  (.ret (.bl false))
  .skip)))))
theorem head91 (Z : Zs) : b_law_l1 Z = (.seq (.setD 2 (.call (F_l_cell Z) (.cons (.var 0) (.cons (.op oAdd (.int 5000) (.var 1)) .nil))))
  (.seq (.setD 3 (.call (F_l_tree Z) (.cons (.var 0) (.cons (.op oMul (.int 100) (.var 1)) (.cons (.int 1) (.cons (.op oMod (.var 2) (.int 5)) .nil))))))
  (.seq (.ite (.of (.op oEq (.op oMod (.op oDiv (.var 2) (.int 5)) (.int 8)) (.int 3)))
  (.setD 3 (.call (F_l_deep_tree Z) (.cons (.var 0) (.cons (.op oAdd (.int 700000) (.op oMul (.int 100) (.var 1))) .nil))))
  .skip)
  (tail91 Z)))) := rfl
theorem tail_turn {ns : List Int} {K c : Int} {T : Tr} (ho : okT T) (hd : dpT T ≤ 12) (hz : szT T ≤ 60) (hs : ¬ c / 5 % 8 = 3 → dpT T ≤ 6) :
    ∃ δ2, (tail91 Z).f [.d (scrD ns), .d (.int K), .d (.int c), .d (toldT T), .un, .un, .un, .un, .un] = .nx δ2 ∧ wpF [1, 2, 3, 4] δ2 = [.d (scrD ns), .un, .un, .un, .un, .un, .un, .un, .un] := by
  have md := F_l_made_v (Z := Z) ho (by omega)
  have it := isi_tree (Z := Z) T
  have te : ∀ δ : List S, δ = [.d (scrD ns), .d (.int K), .d (.int c), .d (toldT T), .d (objT Z T), .un, .un, .un, .un] → (tellE Z (Fg_0 Z 13) (.var 4)).f δ = .ok (.d (toldT T)) := fun δ hδ => tellE_f (by rw [hδ]; simp) (tells_all T 13 (by omega))
  have te := te _ rfl
  have ne := ne_toldT ho (by omega)
  have tt : isiF (TB Z) [toldT T, .ty "tuple"] = some (.d (.bl true)) := by
    obtain ⟨w, x, r, e, _⟩ := told_tup T
    rw [e]; simp
  have fr := F_l_fields_right_v (Z := Z) ho (by omega)
  have pn := F_parts_in_v (Z := Z) (t := T) (by omega) (by omega)
  obtain ⟨L, hL, hk⟩ := F_l_kinds_e (Z := Z) (t := T) (by omega) (by omega)
  have nn := F_names_in_v (Z := Z) (t := T) (by omega) (by omega)
  have no := F_l_names_of_e (Z := Z) (t := T) (by omega) (by omega)
  have nl := namesT_len T
  have so := sortTF_ss (ss := namesT T) (by omega)
  have es := (eq_strs (ss := sortT (namesT T)) fun s hs => name_ok s (namesT_ok ho s (sortT_mem hs))).1
  have tw : ¬ c / 5 % 8 = 3 → F_l_twice_right Z [objT Z T, toldT T] = .ok (.d (.bl true)) := fun z => F_l_twice_right_v ho (by have := hs z; omega) (by omega)
  have q := emod_in (c / 5) (m := 8) (by decide)
  rw [← hL] at pn
  unfold tail91
  generalize tellE Z (Fg_0 Z 13) (.var 4) = TE at *
  generalize (namesT T).map D.str = NS at *
  generalize (sortT (namesT T)).map D.str = SN at *
  generalize objT Z T = O at *
  generalize toldT T = T1 at *
  by_cases z : c / 5 % 8 = 3
  · rcases hk with hk | hk <;> rcases no with no | no <;> exact ⟨_, by simp (disch := walk_at "dd") [md, it, te, ne, tt, fr, pn, hk, nn, no, so, es, z]; rfl, by simp⟩
  · have tw := tw z
    rcases hk with hk | hk <;> rcases no with no | no <;> by_cases l : (L.length : Int) < 28 <;> exact ⟨_, by simp (disch := walk_at "dd") [md, it, te, ne, tt, fr, pn, hk, nn, no, so, es, z, tw, l]; rfl, by simp⟩
theorem law_turn1 {ns : List Int} {i : Nat} (hl : ns.length ≤ 63) : ∃ δ2, (b_law_l1 Z).f [.d (scrD ns), .d (.int (i : Int)), .un, .un, .un, .un, .un, .un, .un] = .nx δ2 ∧ wpF [1, 2, 3, 4] δ2 = [.d (scrD ns), .un, .un, .un, .un, .un, .un, .un, .un] := by
  have c1 := F_l_cell_v (Z := Z) (k := 5000 + (i : Int)) hl
  generalize cell ns (5000 + (i : Int)) = c at *
  have q5 := emod_in c (m := 5) (by decide)
  obtain ⟨T, o1, d1, z1, r1⟩ := F_l_tree_e (Z := Z) (base := 100 * (i : Int)) (node := 1) (deep := (c % 5).toNat) hl (by omega)
  have em : (((c % 5).toNat : Nat) : Int) = c % 5 := by omega
  rw [em] at r1
  have z2 : szT T ≤ 60 := by
    have : (c % 5).toNat = 0 ∨ (c % 5).toNat = 1 ∨ (c % 5).toNat = 2 ∨ (c % 5).toNat = 3 ∨ (c % 5).toNat = 4 := by omega
    rcases this with z | z | z | z | z <;> rw [z] at z1 <;> simp at z1 <;> omega
  obtain ⟨T2, o2, d2, z3, r2⟩ := F_l_deep_tree_e (Z := Z) (b := 700000 + 100 * (i : Int)) hl
  rw [head91]
  by_cases z : c / 5 % 8 = 3
  · obtain ⟨δ2, h1, h2⟩ := tail_turn (Z := Z) (ns := ns) (K := (i : Int)) (c := c) o2 d2 z3 (fun q => (q z).elim)
    generalize toldT T2 = A2 at *
    generalize toldT T = A at *
    exact ⟨δ2, by simp (disch := walk_at "dd") [c1, r1, r2, z, h1], h2⟩
  · obtain ⟨δ2, h1, h2⟩ := tail_turn (Z := Z) (ns := ns) (K := (i : Int)) (c := c) o1 (by omega) z2 (fun _ => by omega)
    generalize toldT T = A at *
    exact ⟨δ2, by simp (disch := walk_at "dd") [c1, r1, z, h1], h2⟩
def thingS : List Str := ["a", "b", "row", "abcdefgh", "turned", "named", "zebra", "overs", "z"]
theorem thingS_ok : ∀ s ∈ thingS, s.length ≤ 1000 ∧ ∀ c ∈ s.cps.toList, PyData.strOk ⟨#[c]⟩ = true := by decide +kernel
theorem name_same {x : D} (h : (∃ s ∈ thingS, x = .str s) ∨ (∃ s ∈ oddS, x = .str s) ∨ (known x = true ∧ isTy x "str" = false)) : ∃ b, F_is_name Z [x] = .ok (.d (.bl b)) ∧ F_l_is_name Z [x] = .ok (.d (.bl b)) := by
  rcases h with ⟨s, hs, rfl⟩ | ⟨s, hs, rfl⟩ | ⟨hk, ht⟩
  · obtain ⟨h1, h3⟩ := thingS_ok s hs
    exact ⟨_, F_is_name_v h1, F_l_is_name_v h1 h3⟩
  · obtain ⟨h1, _, h3⟩ := oddS_ok s hs
    exact ⟨_, F_is_name_v h1, F_l_is_name_v h1 h3⟩
  · exact ⟨_, F_is_name_x hk ht, F_l_is_name_x hk ht⟩
theorem law_turn2 {ns : List Int} {i : Nat} (hl : ns.length ≤ 63) : ∃ δ2, (b_law_l2 Z).f [.d (scrD ns), .d (.int (i : Int)), .un, .un, .un, .un, .un, .un, .un] = .nx δ2 ∧ wpF [1, 2, 5, 6, 7, 8] δ2 = [.d (scrD ns), .un, .un, .un, .un, .un, .un, .un, .un] := by
  have c1 := F_l_cell_v (Z := Z) (k := 6000 + (i : Int)) hl
  generalize cell ns (6000 + (i : Int)) = c at *
  have w := F_l_wrong_x (Z := Z) (c := c)
  have wo := F_l_word_of_t (Z := Z)
  have nm := F_l_names_v (Z := Z)
  unfold nameL at nm
  simp only [List.map] at nm
  obtain ⟨x, hx, nx⟩ := F_l_odd_name_e (Z := Z) (c := c / 11)
  have q := emod_in (c / 7) (m := 11) (by decide)
  obtain ⟨y, hy, hp⟩ := atI_ex (fun x : D => (∃ s ∈ thingS, x = .str s) ∨ (∃ s ∈ oddS, x = .str s) ∨ (known x = true ∧ isTy x "str" = false)) (xs := [D.str "a", .str "b", .str "row", .str "abcdefgh", .str "turned", .str "named", .str "zebra", .str "overs", .str "z", .str "abcdefgh", x]) q.1 (by show c / 7 % 11 < 11; omega) (by
    intro z hz
    simp only [List.mem_cons, List.not_mem_nil, or_false] at hz
    rcases hz with rfl | rfl | rfl | rfl | rfl | rfl | rfl | rfl | rfl | rfl | rfl <;> first | (refine .inr ?_; assumption) | (refine .inl ⟨_, ?_, rfl⟩; unfold thingS; decide +kernel))
  obtain ⟨b, b1, b2⟩ := name_same (Z := Z) hp
  have ad : addF (.lst [D.str "a", .str "b", .str "row", .str "abcdefgh", .str "turned", .str "named"]) (.lst [.str "zebra", .str "overs", .str "z", .str "abcdefgh", x]) = some (.own [D.str "a", .str "b", .str "row", .str "abcdefgh", .str "turned", .str "named", .str "zebra", .str "overs", .str "z", .str "abcdefgh", x]) := addF_lst (by simp)
  exact ⟨_, by simp (disch := walk_at "dd") [b_law_l2, c1, w, wo, nm, hx, ad, hy, b1, b2, ec_FarError, isNon]; rfl, by simp⟩
theorem law_holds (Z : Zs) (ns : List Int) (hl : ns.length ≤ 63) : F_law Z [scrD ns] = .ok (.d (.bl true)) := by
  have lp1 := forF_inv (g := (SG.name 1 : SG (HY Z)).f) (body := (b_law_l1 Z).f) (vs := [1, 2, 3, 4]) (ys := rg 0 (min 63 (ns.length : Int) + 4).toNat) (fun _ => [.d (scrD ns), .un, .un, .un, .un, .un, .un, .un, .un]) (fun i y hy => by
    obtain ⟨hi, rfl⟩ := rg_get hy
    have hz : (0 : Int) + (i : Int) = i := by omega
    rw [hz]
    obtain ⟨δ2, h1, h2⟩ := law_turn1 (Z := Z) (ns := ns) (i := i) hl
    exact ⟨_, δ2, by simp, .inl h1, h2⟩)
  have lp2 := forF_inv (g := (SG.name 1 : SG (HY Z)).f) (body := (b_law_l2 Z).f) (vs := [1, 2, 5, 6, 7, 8]) (ys := rg 0 30) (fun _ => [.d (scrD ns), .un, .un, .un, .un, .un, .un, .un, .un]) (fun i y hy => by
    obtain ⟨hi, rfl⟩ := rg_get hy
    have hz : (0 : Int) + (i : Int) = i := by omega
    rw [hz]
    obtain ⟨δ2, h1, h2⟩ := law_turn2 (Z := Z) (ns := ns) (i := i) hl
    exact ⟨_, δ2, by simp, .inl h1, h2⟩)
  have hir : inR (min 63 (ns.length : Int) + 4) = true := inR_s (by omega) (by omega)
  simp (disch := walk_at "dd") [F_law_eq, b_law, hir, lp1, lp2]

end
end Far
namespace Far
open PySem L2 PyProof.Rows
theorem sc_Rule_rule_word : FnScope N_Rule_rule_word ["self"] (defScope s_Rule_rule_word) := ⟨rfl, rfl, rfl, by decide +kernel, rfl, by decide +kernel, by decide +kernel⟩
theorem sc_Over_rule_word : FnScope N_Over_rule_word ["self"] (defScope s_Over_rule_word) := ⟨rfl, rfl, rfl, by decide +kernel, rfl, by decide +kernel, by decide +kernel⟩
theorem sc_Where_rule_word : FnScope N_Where_rule_word ["self"] (defScope s_Where_rule_word) := ⟨rfl, rfl, rfl, by decide +kernel, rfl, by decide +kernel, by decide +kernel⟩
theorem sc_Without_rule_word : FnScope N_Without_rule_word ["self"] (defScope s_Without_rule_word) := ⟨rfl, rfl, rfl, by decide +kernel, rfl, by decide +kernel, by decide +kernel⟩
theorem sc_Sum_rule_word : FnScope N_Sum_rule_word ["self"] (defScope s_Sum_rule_word) := ⟨rfl, rfl, rfl, by decide +kernel, rfl, by decide +kernel, by decide +kernel⟩
theorem sc_Less_rule_word : FnScope N_Less_rule_word ["self"] (defScope s_Less_rule_word) := ⟨rfl, rfl, rfl, by decide +kernel, rfl, by decide +kernel, by decide +kernel⟩
theorem sc_Least_rule_word : FnScope N_Least_rule_word ["self"] (defScope s_Least_rule_word) := ⟨rfl, rfl, rfl, by decide +kernel, rfl, by decide +kernel, by decide +kernel⟩
theorem sc_Greatest_rule_word : FnScope N_Greatest_rule_word ["self"] (defScope s_Greatest_rule_word) := ⟨rfl, rfl, rfl, by decide +kernel, rfl, by decide +kernel, by decide +kernel⟩
theorem sc_Same_rule_word : FnScope N_Same_rule_word ["self"] (defScope s_Same_rule_word) := ⟨rfl, rfl, rfl, by decide +kernel, rfl, by decide +kernel, by decide +kernel⟩
theorem sc_all_rules : FnScope N_all_rules [] (defScope s_all_rules) := ⟨rfl, rfl, rfl, by decide +kernel, rfl, by decide +kernel, by decide +kernel⟩
theorem sc_is_kept : FnScope N_is_kept ["text"] (defScope s_is_kept) := ⟨rfl, rfl, rfl, by decide +kernel, rfl, by decide +kernel, by decide +kernel⟩
theorem sc_is_name : FnScope N_is_name ["thing"] (defScope s_is_name) := ⟨rfl, rfl, rfl, by decide +kernel, rfl, by decide +kernel, by decide +kernel⟩
theorem sc_need_fit : FnScope N_need_fit ["good"] (defScope s_need_fit) := ⟨rfl, rfl, rfl, by decide +kernel, rfl, by decide +kernel, by decide +kernel⟩
theorem sc_Named_init : FnScope N_Named_init ["self", "name"] (defScope s_Named_init) := ⟨rfl, rfl, rfl, by decide +kernel, rfl, by decide +kernel, by decide +kernel⟩
theorem sc_is_place : FnScope N_is_place ["thing"] (defScope s_is_place) := ⟨rfl, rfl, rfl, by decide +kernel, rfl, by decide +kernel, by decide +kernel⟩
theorem sc_is_value : FnScope N_is_value ["thing"] (defScope s_is_value) := ⟨rfl, rfl, rfl, by decide +kernel, rfl, by decide +kernel, by decide +kernel⟩
theorem sc_Flat_init : FnScope N_Flat_init ["self", "value"] (defScope s_Flat_init) := ⟨rfl, rfl, rfl, by decide +kernel, rfl, by decide +kernel, by decide +kernel⟩
theorem sc_is_span : FnScope N_is_span ["thing"] (defScope s_is_span) := ⟨rfl, rfl, rfl, by decide +kernel, rfl, by decide +kernel, by decide +kernel⟩
theorem sc_Only_init : FnScope N_Only_init ["self", "tree", "span"] (defScope s_Only_init) := ⟨rfl, rfl, rfl, by decide +kernel, rfl, by decide +kernel, by decide +kernel⟩
theorem sc_Shifted_init : FnScope N_Shifted_init ["self", "tree", "by"] (defScope s_Shifted_init) := ⟨rfl, rfl, rfl, by decide +kernel, rfl, by decide +kernel, by decide +kernel⟩
theorem sc_Flipped_init : FnScope N_Flipped_init ["self", "tree", "about"] (defScope s_Flipped_init) := ⟨rfl, rfl, rfl, by decide +kernel, rfl, by decide +kernel, by decide +kernel⟩
theorem sc_rule_by : FnScope N_rule_by ["text"] (defScope s_rule_by) := ⟨rfl, rfl, rfl, by decide +kernel, rfl, by decide +kernel, by decide +kernel⟩
theorem sc_Joint_init : FnScope N_Joint_init ["self", "title", "one", "other"] (defScope s_Joint_init) := ⟨rfl, rfl, rfl, by decide +kernel, rfl, by decide +kernel, by decide +kernel⟩
theorem sc_Tree_limbs : FnScope N_Tree_limbs ["self"] (defScope s_Tree_limbs) := ⟨rfl, rfl, rfl, by decide +kernel, rfl, by decide +kernel, by decide +kernel⟩
theorem sc_Tree_own_names : FnScope N_Tree_own_names ["self"] (defScope s_Tree_own_names) := ⟨rfl, rfl, rfl, by decide +kernel, rfl, by decide +kernel, by decide +kernel⟩
theorem sc_Named_own_names : FnScope N_Named_own_names ["self"] (defScope s_Named_own_names) := ⟨rfl, rfl, rfl, by decide +kernel, rfl, by decide +kernel, by decide +kernel⟩
theorem sc_Named_told : FnScope N_Named_told ["self"] (defScope s_Named_told) := ⟨rfl, rfl, rfl, by decide +kernel, rfl, by decide +kernel, by decide +kernel⟩
theorem sc_Flat_told : FnScope N_Flat_told ["self"] (defScope s_Flat_told) := ⟨rfl, rfl, rfl, by decide +kernel, rfl, by decide +kernel, by decide +kernel⟩
theorem sc_Only_limbs : FnScope N_Only_limbs ["self"] (defScope s_Only_limbs) := ⟨rfl, rfl, rfl, by decide +kernel, rfl, by decide +kernel, by decide +kernel⟩
theorem sc_Joint_told : FnScope N_Joint_told ["self"] (defScope s_Joint_told) := ⟨rfl, rfl, rfl, by decide +kernel, rfl, by decide +kernel, by decide +kernel⟩
theorem sc_Flipped_told : FnScope N_Flipped_told ["self"] (defScope s_Flipped_told) := ⟨rfl, rfl, rfl, by decide +kernel, rfl, by decide +kernel, by decide +kernel⟩
theorem sc_Shifted_told : FnScope N_Shifted_told ["self"] (defScope s_Shifted_told) := ⟨rfl, rfl, rfl, by decide +kernel, rfl, by decide +kernel, by decide +kernel⟩
theorem sc_Only_told : FnScope N_Only_told ["self"] (defScope s_Only_told) := ⟨rfl, rfl, rfl, by decide +kernel, rfl, by decide +kernel, by decide +kernel⟩
theorem sc_Shifted_limbs : FnScope N_Shifted_limbs ["self"] (defScope s_Shifted_limbs) := ⟨rfl, rfl, rfl, by decide +kernel, rfl, by decide +kernel, by decide +kernel⟩
theorem sc_Flipped_limbs : FnScope N_Flipped_limbs ["self"] (defScope s_Flipped_limbs) := ⟨rfl, rfl, rfl, by decide +kernel, rfl, by decide +kernel, by decide +kernel⟩
theorem sc_Joint_limbs : FnScope N_Joint_limbs ["self"] (defScope s_Joint_limbs) := ⟨rfl, rfl, rfl, by decide +kernel, rfl, by decide +kernel, by decide +kernel⟩
theorem sc_all_parts : FnScope N_all_parts ["tree"] (defScope s_all_parts) := ⟨rfl, rfl, rfl, by decide +kernel, rfl, by decide +kernel, by decide +kernel⟩
theorem sc_names_in : FnScope N_names_in ["tree"] (defScope s_names_in) := ⟨rfl, rfl, rfl, by decide +kernel, rfl, by decide +kernel, by decide +kernel⟩
theorem sc_parts_in : FnScope N_parts_in ["tree"] (defScope s_parts_in) := ⟨rfl, rfl, rfl, by decide +kernel, rfl, by decide +kernel, by decide +kernel⟩
theorem sc_l_cell : FnScope N_l_cell ["_law_script", "_law_k"] (defScope s_l_cell) := ⟨rfl, rfl, rfl, by decide +kernel, rfl, by decide +kernel, by decide +kernel⟩
theorem sc_l_value : FnScope N_l_value ["_law_cell_here"] (defScope s_l_value) := ⟨rfl, rfl, rfl, by decide +kernel, rfl, by decide +kernel, by decide +kernel⟩
theorem sc_l_word_of : FnScope N_l_word_of ["_law_error"] (defScope s_l_word_of) := ⟨rfl, rfl, rfl, by decide +kernel, rfl, by decide +kernel, by decide +kernel⟩
theorem sc_l_titles : FnScope N_l_titles [] (defScope s_l_titles) := ⟨rfl, rfl, rfl, by decide +kernel, rfl, by decide +kernel, by decide +kernel⟩
theorem sc_l_names : FnScope N_l_names [] (defScope s_l_names) := ⟨rfl, rfl, rfl, by decide +kernel, rfl, by decide +kernel, by decide +kernel⟩
theorem sc_l_near_span : FnScope N_l_near_span ["_law_cell_here"] (defScope s_l_near_span) := ⟨rfl, rfl, rfl, by decide +kernel, rfl, by decide +kernel, by decide +kernel⟩
theorem sc_l_tree : FnScope N_l_tree ["_law_script", "_law_base", "_law_node", "_law_deep"] (defScope s_l_tree) := ⟨rfl, rfl, rfl, by decide +kernel, rfl, by decide +kernel, by decide +kernel⟩
theorem sc_l_made : FnScope N_l_made ["_law_told_tree"] (defScope s_l_made) := ⟨rfl, rfl, rfl, by decide +kernel, rfl, by decide +kernel, by decide +kernel⟩
theorem sc_l_kinds : FnScope N_l_kinds ["_law_tree_here"] (defScope s_l_kinds) := ⟨rfl, rfl, rfl, by decide +kernel, rfl, by decide +kernel, by decide +kernel⟩
theorem sc_l_names_of : FnScope N_l_names_of ["_law_tree_here"] (defScope s_l_names_of) := ⟨rfl, rfl, rfl, by decide +kernel, rfl, by decide +kernel, by decide +kernel⟩
theorem sc_l_fields_right : FnScope N_l_fields_right ["_law_tree_here", "_law_due"] (defScope s_l_fields_right) := ⟨rfl, rfl, rfl, by decide +kernel, rfl, by decide +kernel, by decide +kernel⟩
theorem sc_l_odd_name : FnScope N_l_odd_name ["_law_cell_here"] (defScope s_l_odd_name) := ⟨rfl, rfl, rfl, by decide +kernel, rfl, by decide +kernel, by decide +kernel⟩
theorem sc_l_is_name : FnScope N_l_is_name ["_law_thing"] (defScope s_l_is_name) := ⟨rfl, rfl, rfl, by decide +kernel, rfl, by decide +kernel, by decide +kernel⟩
theorem sc_l_wrong : FnScope N_l_wrong ["_law_cell_here"] (defScope s_l_wrong) := ⟨rfl, rfl, rfl, by decide +kernel, rfl, by decide +kernel, by decide +kernel⟩
theorem sc_l_deep_tree : FnScope N_l_deep_tree ["_law_script", "_law_base"] (defScope s_l_deep_tree) := ⟨rfl, rfl, rfl, by decide +kernel, rfl, by decide +kernel, by decide +kernel⟩
theorem sc_l_twice_right : FnScope N_l_twice_right ["_law_tree_here", "_law_due"] (defScope s_l_twice_right) := ⟨rfl, rfl, rfl, by decide +kernel, rfl, by decide +kernel, by decide +kernel⟩
theorem sc_law : FnScope N_law ["_law_script"] (defScope s_law) := ⟨rfl, rfl, rfl, by decide +kernel, rfl, by decide +kernel, by decide +kernel⟩
structure Txt (K : PySem.W.Frag) (mg : Str → Option Value) (Z : Zs) where
  a_Rule_rule_word : Addr
  d_Rule_rule_word : FuncData
  F_Rule_rule_word : Fun K "rule_word" "Rule.rule_word" s_Rule_rule_word a_Rule_rule_word d_Rule_rule_word
  b_Rule_rule_word : Binds K d_Rule_rule_word ["self"] []
  a_Over_rule_word : Addr
  d_Over_rule_word : FuncData
  F_Over_rule_word : Fun K "rule_word" "Over.rule_word" s_Over_rule_word a_Over_rule_word d_Over_rule_word
  b_Over_rule_word : Binds K d_Over_rule_word ["self"] []
  a_Where_rule_word : Addr
  d_Where_rule_word : FuncData
  F_Where_rule_word : Fun K "rule_word" "Where.rule_word" s_Where_rule_word a_Where_rule_word d_Where_rule_word
  b_Where_rule_word : Binds K d_Where_rule_word ["self"] []
  a_Without_rule_word : Addr
  d_Without_rule_word : FuncData
  F_Without_rule_word : Fun K "rule_word" "Without.rule_word" s_Without_rule_word a_Without_rule_word d_Without_rule_word
  b_Without_rule_word : Binds K d_Without_rule_word ["self"] []
  a_Sum_rule_word : Addr
  d_Sum_rule_word : FuncData
  F_Sum_rule_word : Fun K "rule_word" "Sum.rule_word" s_Sum_rule_word a_Sum_rule_word d_Sum_rule_word
  b_Sum_rule_word : Binds K d_Sum_rule_word ["self"] []
  a_Less_rule_word : Addr
  d_Less_rule_word : FuncData
  F_Less_rule_word : Fun K "rule_word" "Less.rule_word" s_Less_rule_word a_Less_rule_word d_Less_rule_word
  b_Less_rule_word : Binds K d_Less_rule_word ["self"] []
  a_Least_rule_word : Addr
  d_Least_rule_word : FuncData
  F_Least_rule_word : Fun K "rule_word" "Least.rule_word" s_Least_rule_word a_Least_rule_word d_Least_rule_word
  b_Least_rule_word : Binds K d_Least_rule_word ["self"] []
  a_Greatest_rule_word : Addr
  d_Greatest_rule_word : FuncData
  F_Greatest_rule_word : Fun K "rule_word" "Greatest.rule_word" s_Greatest_rule_word a_Greatest_rule_word d_Greatest_rule_word
  b_Greatest_rule_word : Binds K d_Greatest_rule_word ["self"] []
  a_Same_rule_word : Addr
  d_Same_rule_word : FuncData
  F_Same_rule_word : Fun K "rule_word" "Same.rule_word" s_Same_rule_word a_Same_rule_word d_Same_rule_word
  b_Same_rule_word : Binds K d_Same_rule_word ["self"] []
  a_all_rules : Addr
  d_all_rules : FuncData
  F_all_rules : Fun K "all_rules" "all_rules" s_all_rules a_all_rules d_all_rules
  b_all_rules : Binds K d_all_rules [] []
  g_all_rules : mg "all_rules" = some (.ref a_all_rules)
  a_is_kept : Addr
  d_is_kept : FuncData
  F_is_kept : Fun K "is_kept" "is_kept" s_is_kept a_is_kept d_is_kept
  b_is_kept : Binds K d_is_kept ["text"] []
  g_is_kept : mg "is_kept" = some (.ref a_is_kept)
  a_is_name : Addr
  d_is_name : FuncData
  F_is_name : Fun K "is_name" "is_name" s_is_name a_is_name d_is_name
  b_is_name : Binds K d_is_name ["thing"] []
  g_is_name : mg "is_name" = some (.ref a_is_name)
  a_need_fit : Addr
  d_need_fit : FuncData
  F_need_fit : Fun K "need_fit" "need_fit" s_need_fit a_need_fit d_need_fit
  b_need_fit : Binds K d_need_fit ["good"] []
  g_need_fit : mg "need_fit" = some (.ref a_need_fit)
  a_Named_init : Addr
  d_Named_init : FuncData
  F_Named_init : Fun K "__init__" "Named.__init__" s_Named_init a_Named_init d_Named_init
  b_Named_init : Binds K d_Named_init ["self", "name"] []
  a_is_place : Addr
  d_is_place : FuncData
  F_is_place : Fun K "is_place" "is_place" s_is_place a_is_place d_is_place
  b_is_place : Binds K d_is_place ["thing"] []
  g_is_place : mg "is_place" = some (.ref a_is_place)
  a_is_value : Addr
  d_is_value : FuncData
  F_is_value : Fun K "is_value" "is_value" s_is_value a_is_value d_is_value
  b_is_value : Binds K d_is_value ["thing"] []
  g_is_value : mg "is_value" = some (.ref a_is_value)
  a_Flat_init : Addr
  d_Flat_init : FuncData
  F_Flat_init : Fun K "__init__" "Flat.__init__" s_Flat_init a_Flat_init d_Flat_init
  b_Flat_init : Binds K d_Flat_init ["self", "value"] []
  a_is_span : Addr
  d_is_span : FuncData
  F_is_span : Fun K "is_span" "is_span" s_is_span a_is_span d_is_span
  b_is_span : Binds K d_is_span ["thing"] []
  g_is_span : mg "is_span" = some (.ref a_is_span)
  a_Only_init : Addr
  d_Only_init : FuncData
  F_Only_init : Fun K "__init__" "Only.__init__" s_Only_init a_Only_init d_Only_init
  b_Only_init : Binds K d_Only_init ["self", "tree", "span"] []
  a_Shifted_init : Addr
  d_Shifted_init : FuncData
  F_Shifted_init : Fun K "__init__" "Shifted.__init__" s_Shifted_init a_Shifted_init d_Shifted_init
  b_Shifted_init : Binds K d_Shifted_init ["self", "tree", "by"] []
  a_Flipped_init : Addr
  d_Flipped_init : FuncData
  F_Flipped_init : Fun K "__init__" "Flipped.__init__" s_Flipped_init a_Flipped_init d_Flipped_init
  b_Flipped_init : Binds K d_Flipped_init ["self", "tree", "about"] []
  a_rule_by : Addr
  d_rule_by : FuncData
  F_rule_by : Fun K "rule_by" "rule_by" s_rule_by a_rule_by d_rule_by
  b_rule_by : Binds K d_rule_by ["text"] []
  g_rule_by : mg "rule_by" = some (.ref a_rule_by)
  a_Joint_init : Addr
  d_Joint_init : FuncData
  F_Joint_init : Fun K "__init__" "Joint.__init__" s_Joint_init a_Joint_init d_Joint_init
  b_Joint_init : Binds K d_Joint_init ["self", "title", "one", "other"] []
  a_Tree_limbs : Addr
  d_Tree_limbs : FuncData
  F_Tree_limbs : Fun K "limbs" "Tree.limbs" s_Tree_limbs a_Tree_limbs d_Tree_limbs
  b_Tree_limbs : Binds K d_Tree_limbs ["self"] []
  a_Tree_own_names : Addr
  d_Tree_own_names : FuncData
  F_Tree_own_names : Fun K "own_names" "Tree.own_names" s_Tree_own_names a_Tree_own_names d_Tree_own_names
  b_Tree_own_names : Binds K d_Tree_own_names ["self"] []
  a_Named_own_names : Addr
  d_Named_own_names : FuncData
  F_Named_own_names : Fun K "own_names" "Named.own_names" s_Named_own_names a_Named_own_names d_Named_own_names
  b_Named_own_names : Binds K d_Named_own_names ["self"] []
  a_Named_told : Addr
  d_Named_told : FuncData
  F_Named_told : Fun K "told" "Named.told" s_Named_told a_Named_told d_Named_told
  b_Named_told : Binds K d_Named_told ["self"] []
  a_Flat_told : Addr
  d_Flat_told : FuncData
  F_Flat_told : Fun K "told" "Flat.told" s_Flat_told a_Flat_told d_Flat_told
  b_Flat_told : Binds K d_Flat_told ["self"] []
  a_Only_limbs : Addr
  d_Only_limbs : FuncData
  F_Only_limbs : Fun K "limbs" "Only.limbs" s_Only_limbs a_Only_limbs d_Only_limbs
  b_Only_limbs : Binds K d_Only_limbs ["self"] []
  a_Joint_told : Addr
  d_Joint_told : FuncData
  F_Joint_told : Fun K "told" "Joint.told" s_Joint_told a_Joint_told d_Joint_told
  b_Joint_told : Binds K d_Joint_told ["self"] []
  a_Flipped_told : Addr
  d_Flipped_told : FuncData
  F_Flipped_told : Fun K "told" "Flipped.told" s_Flipped_told a_Flipped_told d_Flipped_told
  b_Flipped_told : Binds K d_Flipped_told ["self"] []
  a_Shifted_told : Addr
  d_Shifted_told : FuncData
  F_Shifted_told : Fun K "told" "Shifted.told" s_Shifted_told a_Shifted_told d_Shifted_told
  b_Shifted_told : Binds K d_Shifted_told ["self"] []
  a_Only_told : Addr
  d_Only_told : FuncData
  F_Only_told : Fun K "told" "Only.told" s_Only_told a_Only_told d_Only_told
  b_Only_told : Binds K d_Only_told ["self"] []
  a_Shifted_limbs : Addr
  d_Shifted_limbs : FuncData
  F_Shifted_limbs : Fun K "limbs" "Shifted.limbs" s_Shifted_limbs a_Shifted_limbs d_Shifted_limbs
  b_Shifted_limbs : Binds K d_Shifted_limbs ["self"] []
  a_Flipped_limbs : Addr
  d_Flipped_limbs : FuncData
  F_Flipped_limbs : Fun K "limbs" "Flipped.limbs" s_Flipped_limbs a_Flipped_limbs d_Flipped_limbs
  b_Flipped_limbs : Binds K d_Flipped_limbs ["self"] []
  a_Joint_limbs : Addr
  d_Joint_limbs : FuncData
  F_Joint_limbs : Fun K "limbs" "Joint.limbs" s_Joint_limbs a_Joint_limbs d_Joint_limbs
  b_Joint_limbs : Binds K d_Joint_limbs ["self"] []
  a_all_parts : Addr
  d_all_parts : FuncData
  F_all_parts : Fun K "all_parts" "all_parts" s_all_parts a_all_parts d_all_parts
  b_all_parts : Binds K d_all_parts ["tree"] []
  g_all_parts : mg "all_parts" = some (.ref a_all_parts)
  a_names_in : Addr
  d_names_in : FuncData
  F_names_in : Fun K "names_in" "names_in" s_names_in a_names_in d_names_in
  b_names_in : Binds K d_names_in ["tree"] []
  g_names_in : mg "names_in" = some (.ref a_names_in)
  a_parts_in : Addr
  d_parts_in : FuncData
  F_parts_in : Fun K "parts_in" "parts_in" s_parts_in a_parts_in d_parts_in
  b_parts_in : Binds K d_parts_in ["tree"] []
  g_parts_in : mg "parts_in" = some (.ref a_parts_in)
  a_l_cell : Addr
  d_l_cell : FuncData
  F_l_cell : Fun K "_law_cell" "_law_cell" s_l_cell a_l_cell d_l_cell
  b_l_cell : Binds K d_l_cell ["_law_script", "_law_k"] []
  g_l_cell : mg "_law_cell" = some (.ref a_l_cell)
  a_l_value : Addr
  d_l_value : FuncData
  F_l_value : Fun K "_law_value" "_law_value" s_l_value a_l_value d_l_value
  b_l_value : Binds K d_l_value ["_law_cell_here"] []
  g_l_value : mg "_law_value" = some (.ref a_l_value)
  a_l_word_of : Addr
  d_l_word_of : FuncData
  F_l_word_of : Fun K "_law_word_of" "_law_word_of" s_l_word_of a_l_word_of d_l_word_of
  b_l_word_of : Binds K d_l_word_of ["_law_error"] []
  g_l_word_of : mg "_law_word_of" = some (.ref a_l_word_of)
  a_l_titles : Addr
  d_l_titles : FuncData
  F_l_titles : Fun K "_law_titles" "_law_titles" s_l_titles a_l_titles d_l_titles
  b_l_titles : Binds K d_l_titles [] []
  g_l_titles : mg "_law_titles" = some (.ref a_l_titles)
  a_l_names : Addr
  d_l_names : FuncData
  F_l_names : Fun K "_law_names" "_law_names" s_l_names a_l_names d_l_names
  b_l_names : Binds K d_l_names [] []
  g_l_names : mg "_law_names" = some (.ref a_l_names)
  a_l_near_span : Addr
  d_l_near_span : FuncData
  F_l_near_span : Fun K "_law_near_span" "_law_near_span" s_l_near_span a_l_near_span d_l_near_span
  b_l_near_span : Binds K d_l_near_span ["_law_cell_here"] []
  g_l_near_span : mg "_law_near_span" = some (.ref a_l_near_span)
  a_l_tree : Addr
  d_l_tree : FuncData
  F_l_tree : Fun K "_law_tree" "_law_tree" s_l_tree a_l_tree d_l_tree
  b_l_tree : Binds K d_l_tree ["_law_script", "_law_base", "_law_node", "_law_deep"] []
  g_l_tree : mg "_law_tree" = some (.ref a_l_tree)
  a_l_made : Addr
  d_l_made : FuncData
  F_l_made : Fun K "_law_made" "_law_made" s_l_made a_l_made d_l_made
  b_l_made : Binds K d_l_made ["_law_told_tree"] []
  g_l_made : mg "_law_made" = some (.ref a_l_made)
  a_l_kinds : Addr
  d_l_kinds : FuncData
  F_l_kinds : Fun K "_law_kinds" "_law_kinds" s_l_kinds a_l_kinds d_l_kinds
  b_l_kinds : Binds K d_l_kinds ["_law_tree_here"] []
  g_l_kinds : mg "_law_kinds" = some (.ref a_l_kinds)
  a_l_names_of : Addr
  d_l_names_of : FuncData
  F_l_names_of : Fun K "_law_names_of" "_law_names_of" s_l_names_of a_l_names_of d_l_names_of
  b_l_names_of : Binds K d_l_names_of ["_law_tree_here"] []
  g_l_names_of : mg "_law_names_of" = some (.ref a_l_names_of)
  a_l_fields_right : Addr
  d_l_fields_right : FuncData
  F_l_fields_right : Fun K "_law_fields_right" "_law_fields_right" s_l_fields_right a_l_fields_right d_l_fields_right
  b_l_fields_right : Binds K d_l_fields_right ["_law_tree_here", "_law_due"] []
  g_l_fields_right : mg "_law_fields_right" = some (.ref a_l_fields_right)
  a_l_odd_name : Addr
  d_l_odd_name : FuncData
  F_l_odd_name : Fun K "_law_odd_name" "_law_odd_name" s_l_odd_name a_l_odd_name d_l_odd_name
  b_l_odd_name : Binds K d_l_odd_name ["_law_cell_here"] []
  g_l_odd_name : mg "_law_odd_name" = some (.ref a_l_odd_name)
  a_l_is_name : Addr
  d_l_is_name : FuncData
  F_l_is_name : Fun K "_law_is_name" "_law_is_name" s_l_is_name a_l_is_name d_l_is_name
  b_l_is_name : Binds K d_l_is_name ["_law_thing"] []
  g_l_is_name : mg "_law_is_name" = some (.ref a_l_is_name)
  a_l_wrong : Addr
  d_l_wrong : FuncData
  F_l_wrong : Fun K "_law_wrong" "_law_wrong" s_l_wrong a_l_wrong d_l_wrong
  b_l_wrong : Binds K d_l_wrong ["_law_cell_here"] []
  g_l_wrong : mg "_law_wrong" = some (.ref a_l_wrong)
  a_l_deep_tree : Addr
  d_l_deep_tree : FuncData
  F_l_deep_tree : Fun K "_law_deep_tree" "_law_deep_tree" s_l_deep_tree a_l_deep_tree d_l_deep_tree
  b_l_deep_tree : Binds K d_l_deep_tree ["_law_script", "_law_base"] []
  g_l_deep_tree : mg "_law_deep_tree" = some (.ref a_l_deep_tree)
  a_l_twice_right : Addr
  d_l_twice_right : FuncData
  F_l_twice_right : Fun K "_law_twice_right" "_law_twice_right" s_l_twice_right a_l_twice_right d_l_twice_right
  b_l_twice_right : Binds K d_l_twice_right ["_law_tree_here", "_law_due"] []
  g_l_twice_right : mg "_law_twice_right" = some (.ref a_l_twice_right)
  a_law : Addr
  d_law : FuncData
  F_law : Fun K "law" "law" s_law a_law d_law
  b_law : Binds K d_law ["_law_script"] []
  g_law : mg "law" = some (.ref a_law)
  n_ValueError : mg "ValueError" = none
  n_all : mg "all" = none
  n_bool : mg "bool" = none
  n_int : mg "int" = none
  n_isinstance : mg "isinstance" = none
  n_len : mg "len" = none
  n_min : mg "min" = none
  n_range : mg "range" = none
  n_set : mg "set" = none
  n_sorted : mg "sorted" = none
  n_str : mg "str" = none
  n_tuple : mg "tuple" = none
  t_MOST_LETTERS : Tok
  g_MOST_LETTERS : mg "MOST_LETTERS" = some (.int 8 t_MOST_LETTERS)
  t_SMALL : Tok
  g_SMALL : mg "SMALL" = some (.str "abcdefghijklmnopqrstuvwxyz" t_SMALL)
  g_FarError : mg "FarError" = some (.ref Z.FarError)
  g_NoSpan : mg "NoSpan" = some (.ref Z.NoSpan)
  g_NoValue : mg "NoValue" = some (.ref Z.NoValue)
  g_NoPlace : mg "NoPlace" = some (.ref Z.NoPlace)
  g_NoCount : mg "NoCount" = some (.ref Z.NoCount)
  g_NoWheel : mg "NoWheel" = some (.ref Z.NoWheel)
  g_NoRow : mg "NoRow" = some (.ref Z.NoRow)
  g_NoWord : mg "NoWord" = some (.ref Z.NoWord)
  g_NoWalker : mg "NoWalker" = some (.ref Z.NoWalker)
  g_NoState : mg "NoState" = some (.ref Z.NoState)
  g_NoName : mg "NoName" = some (.ref Z.NoName)
  g_NoVersion : mg "NoVersion" = some (.ref Z.NoVersion)
  g_NoTree : mg "NoTree" = some (.ref Z.NoTree)
  g_TooMany : mg "TooMany" = some (.ref Z.TooMany)
  g_NoText : mg "NoText" = some (.ref Z.NoText)
  g_Rule : mg "Rule" = some (.ref Z.Rule)
  g_Over : mg "Over" = some (.ref Z.Over)
  g_Where : mg "Where" = some (.ref Z.Where)
  g_Without : mg "Without" = some (.ref Z.Without)
  g_Sum : mg "Sum" = some (.ref Z.Sum)
  g_Less : mg "Less" = some (.ref Z.Less)
  g_Least : mg "Least" = some (.ref Z.Least)
  g_Greatest : mg "Greatest" = some (.ref Z.Greatest)
  g_Same : mg "Same" = some (.ref Z.Same)
  g_Tree : mg "Tree" = some (.ref Z.Tree)
  g_Named : mg "Named" = some (.ref Z.Named)
  g_Flat : mg "Flat" = some (.ref Z.Flat)
  g_Only : mg "Only" = some (.ref Z.Only)
  g_Shifted : mg "Shifted" = some (.ref Z.Shifted)
  g_Flipped : mg "Flipped" = some (.ref Z.Flipped)
  g_Joint : mg "Joint" = some (.ref Z.Joint)
  g_OWN_WORDS : mg "OWN_WORDS" = some (.ref Z.tk_OWN_WORDS)
  xi_NoTree : PySem.W.excIn K Z.NoTree PySem.HandSPX.veTail "ValueError.__new__" = true
  kp_NoTree : PySem.W.keepIn K (.ref Z.NoTree) = true
  xb_NoTree : PySem.W.subIn K (.ref Z.NoTree) (.type "BaseException") = some true
  ty_NoTree : PySem.W.typeIn K (.ref Z.NoTree) = some (.type "type")
  mk_Flat : Mk K Z.Flat a_Flat_init
  mk_Flipped : Mk K Z.Flipped a_Flipped_init
  mk_Joint : Mk K Z.Joint a_Joint_init
  mk_Named : Mk K Z.Named a_Named_init
  mk_Only : Mk K Z.Only a_Only_init
  mk_Shifted : Mk K Z.Shifted a_Shifted_init
  m0_Greatest : Mk0 K Z.Greatest
  m0_Least : Mk0 K Z.Least
  m0_Less : Mk0 K Z.Less
  m0_Over : Mk0 K Z.Over
  m0_Same : Mk0 K Z.Same
  m0_Sum : Mk0 K Z.Sum
  m0_Where : Mk0 K Z.Where
  m0_Without : Mk0 K Z.Without
  me_Flat_limbs : Meth K Z.Flat "limbs" a_Tree_limbs
  me_Flat_own_names : Meth K Z.Flat "own_names" a_Tree_own_names
  me_Flat_told : Meth K Z.Flat "told" a_Flat_told
  me_Flipped_limbs : Meth K Z.Flipped "limbs" a_Flipped_limbs
  me_Flipped_own_names : Meth K Z.Flipped "own_names" a_Tree_own_names
  me_Flipped_told : Meth K Z.Flipped "told" a_Flipped_told
  me_Greatest_rule_word : Meth K Z.Greatest "rule_word" a_Greatest_rule_word
  me_Joint_limbs : Meth K Z.Joint "limbs" a_Joint_limbs
  me_Joint_own_names : Meth K Z.Joint "own_names" a_Tree_own_names
  me_Joint_told : Meth K Z.Joint "told" a_Joint_told
  me_Least_rule_word : Meth K Z.Least "rule_word" a_Least_rule_word
  me_Less_rule_word : Meth K Z.Less "rule_word" a_Less_rule_word
  me_Named_limbs : Meth K Z.Named "limbs" a_Tree_limbs
  me_Named_own_names : Meth K Z.Named "own_names" a_Named_own_names
  me_Named_told : Meth K Z.Named "told" a_Named_told
  me_Only_limbs : Meth K Z.Only "limbs" a_Only_limbs
  me_Only_own_names : Meth K Z.Only "own_names" a_Tree_own_names
  me_Only_told : Meth K Z.Only "told" a_Only_told
  me_Over_rule_word : Meth K Z.Over "rule_word" a_Over_rule_word
  me_Rule_rule_word : Meth K Z.Rule "rule_word" a_Rule_rule_word
  me_Same_rule_word : Meth K Z.Same "rule_word" a_Same_rule_word
  me_Shifted_limbs : Meth K Z.Shifted "limbs" a_Shifted_limbs
  me_Shifted_own_names : Meth K Z.Shifted "own_names" a_Tree_own_names
  me_Shifted_told : Meth K Z.Shifted "told" a_Shifted_told
  me_Sum_rule_word : Meth K Z.Sum "rule_word" a_Sum_rule_word
  me_Tree_limbs : Meth K Z.Tree "limbs" a_Tree_limbs
  me_Tree_own_names : Meth K Z.Tree "own_names" a_Tree_own_names
  me_Where_rule_word : Meth K Z.Where "rule_word" a_Where_rule_word
  me_Without_rule_word : Meth K Z.Without "rule_word" a_Without_rule_word
  zf : ZF K Z
section
variable {P : Program} {w : World} {K : PySem.W.Frag} {mg : Str → Option Value} {base : Heap} {Z : Zs}
theorem ok_Rule_rule_word (T : Txt K mg Z) : FnOk P w K mg base CX0 1 T.a_Rule_rule_word T.d_Rule_rule_word ["self"] (spD K (RF (F_Rule_rule_word Z))) :=
  ok_def (t := t_Rule_rule_word K Z) T.F_Rule_rule_word sc_Rule_rule_word hl_run (fun cdv A outer s H E hr =>
    (pss_one (ps_ret pe_str))) (fun E xs out h => (rd_Rule_rule_word K Z E) ▸ sd_run (Hy := HY Z) T.zf h)
theorem ok_Over_rule_word (T : Txt K mg Z) : FnOk P w K mg base CX0 1 T.a_Over_rule_word T.d_Over_rule_word ["self"] (spD K (RF (F_Over_rule_word Z))) :=
  ok_def (t := t_Over_rule_word K Z) T.F_Over_rule_word sc_Over_rule_word hl_run (fun cdv A outer s H E hr =>
    (pss_one (ps_ret pe_str))) (fun E xs out h => (rd_Over_rule_word K Z E) ▸ sd_run (Hy := HY Z) T.zf h)
theorem ok_Where_rule_word (T : Txt K mg Z) : FnOk P w K mg base CX0 1 T.a_Where_rule_word T.d_Where_rule_word ["self"] (spD K (RF (F_Where_rule_word Z))) :=
  ok_def (t := t_Where_rule_word K Z) T.F_Where_rule_word sc_Where_rule_word hl_run (fun cdv A outer s H E hr =>
    (pss_one (ps_ret pe_str))) (fun E xs out h => (rd_Where_rule_word K Z E) ▸ sd_run (Hy := HY Z) T.zf h)
theorem ok_Without_rule_word (T : Txt K mg Z) : FnOk P w K mg base CX0 1 T.a_Without_rule_word T.d_Without_rule_word ["self"] (spD K (RF (F_Without_rule_word Z))) :=
  ok_def (t := t_Without_rule_word K Z) T.F_Without_rule_word sc_Without_rule_word hl_run (fun cdv A outer s H E hr =>
    (pss_one (ps_ret pe_str))) (fun E xs out h => (rd_Without_rule_word K Z E) ▸ sd_run (Hy := HY Z) T.zf h)
theorem ok_Sum_rule_word (T : Txt K mg Z) : FnOk P w K mg base CX0 1 T.a_Sum_rule_word T.d_Sum_rule_word ["self"] (spD K (RF (F_Sum_rule_word Z))) :=
  ok_def (t := t_Sum_rule_word K Z) T.F_Sum_rule_word sc_Sum_rule_word hl_run (fun cdv A outer s H E hr =>
    (pss_one (ps_ret pe_str))) (fun E xs out h => (rd_Sum_rule_word K Z E) ▸ sd_run (Hy := HY Z) T.zf h)
theorem ok_Less_rule_word (T : Txt K mg Z) : FnOk P w K mg base CX0 1 T.a_Less_rule_word T.d_Less_rule_word ["self"] (spD K (RF (F_Less_rule_word Z))) :=
  ok_def (t := t_Less_rule_word K Z) T.F_Less_rule_word sc_Less_rule_word hl_run (fun cdv A outer s H E hr =>
    (pss_one (ps_ret pe_str))) (fun E xs out h => (rd_Less_rule_word K Z E) ▸ sd_run (Hy := HY Z) T.zf h)
theorem ok_Least_rule_word (T : Txt K mg Z) : FnOk P w K mg base CX0 1 T.a_Least_rule_word T.d_Least_rule_word ["self"] (spD K (RF (F_Least_rule_word Z))) :=
  ok_def (t := t_Least_rule_word K Z) T.F_Least_rule_word sc_Least_rule_word hl_run (fun cdv A outer s H E hr =>
    (pss_one (ps_ret pe_str))) (fun E xs out h => (rd_Least_rule_word K Z E) ▸ sd_run (Hy := HY Z) T.zf h)
theorem ok_Greatest_rule_word (T : Txt K mg Z) : FnOk P w K mg base CX0 1 T.a_Greatest_rule_word T.d_Greatest_rule_word ["self"] (spD K (RF (F_Greatest_rule_word Z))) :=
  ok_def (t := t_Greatest_rule_word K Z) T.F_Greatest_rule_word sc_Greatest_rule_word hl_run (fun cdv A outer s H E hr =>
    (pss_one (ps_ret pe_str))) (fun E xs out h => (rd_Greatest_rule_word K Z E) ▸ sd_run (Hy := HY Z) T.zf h)
theorem ok_Same_rule_word (T : Txt K mg Z) : FnOk P w K mg base CX0 1 T.a_Same_rule_word T.d_Same_rule_word ["self"] (spD K (RF (F_Same_rule_word Z))) :=
  ok_def (t := t_Same_rule_word K Z) T.F_Same_rule_word sc_Same_rule_word hl_run (fun cdv A outer s H E hr =>
    (pss_one (ps_ret pe_str))) (fun E xs out h => (rd_Same_rule_word K Z E) ▸ sd_run (Hy := HY Z) T.zf h)
theorem ok_all_rules (T : Txt K mg Z) : FnOk P w K mg base CX0 1 T.a_all_rules T.d_all_rules [] (spD K (RF (F_all_rules Z))) :=
  ok_def (t := t_all_rules K Z) T.F_all_rules sc_all_rules hl_run (fun cdv A outer s H E hr =>
    (pss_one (ps_ret (pe_lst (pa_cons (pe_new0 T.m0_Over (by rfl) T.g_Over) (pa_cons (pe_new0 T.m0_Where (by rfl) T.g_Where) (pa_cons (pe_new0 T.m0_Without (by rfl) T.g_Without) (pa_cons (pe_new0 T.m0_Sum (by rfl) T.g_Sum) (pa_cons (pe_new0 T.m0_Less (by rfl) T.g_Less) (pa_cons (pe_new0 T.m0_Least (by rfl) T.g_Least) (pa_cons (pe_new0 T.m0_Greatest (by rfl) T.g_Greatest) (pa_cons (pe_new0 T.m0_Same (by rfl) T.g_Same) pa_nil)))))))))))) (fun E xs out h => (rd_all_rules K Z E) ▸ sd_run (Hy := HY Z) T.zf h)
theorem ok_is_kept (T : Txt K mg Z) : FnOk P w K mg base CX0 2 T.a_is_kept T.d_is_kept ["text"] (spD K (RF (F_is_kept Z))) :=
  ok_def (t := t_is_kept K Z) T.F_is_kept sc_is_kept hl_run (fun cdv A outer s H E hr =>
    (pss_one (ps_ret (pe_orT (pe_cmpR op_inU (pv 0) (pe_glob (v := .ref Z.tk_OWN_WORDS) (by rfl) T.g_OWN_WORDS rfl) (by rfl)) (pe_one (pe_cmpR op_inU (pv 0) (pe_lc (own := [("rule", 1)]) (by rfl) sc_is_kept.nd (pi_seq (pe_call0 (ok_all_rules T) (hr.mono (by omega)) (by rfl) T.g_all_rules T.F_all_rules.kp T.b_all_rules .nil pass0)) (blkOk_by (own := [("rule", 1)]) (N := N_is_kept) (sc := defScope s_is_kept) (by decide +kernel)) (fun _ _ _ _ _ => (pg_name (i := 1) sc_is_kept.nd rfl (by first | exact Or.inl rfl | exact Or.inr rfl))) (fun _ _ _ _ _ => pts_nil) (fun _ _ _ _ _ => (pe_either (pe_methS0 (pv 1) T.zf.ins_Rule.cl T.me_Rule_rule_word (ok_Rule_rule_word T) (hr.mono (by omega)) T.b_Rule_rule_word (fun _ => pass0C)) (pe_either (pe_methS0 (pv 1) T.zf.ins_Over.cl T.me_Over_rule_word (ok_Over_rule_word T) (hr.mono (by omega)) T.b_Over_rule_word (fun _ => pass0C)) (pe_either (pe_methS0 (pv 1) T.zf.ins_Where.cl T.me_Where_rule_word (ok_Where_rule_word T) (hr.mono (by omega)) T.b_Where_rule_word (fun _ => pass0C)) (pe_either (pe_methS0 (pv 1) T.zf.ins_Without.cl T.me_Without_rule_word (ok_Without_rule_word T) (hr.mono (by omega)) T.b_Without_rule_word (fun _ => pass0C)) (pe_either (pe_methS0 (pv 1) T.zf.ins_Sum.cl T.me_Sum_rule_word (ok_Sum_rule_word T) (hr.mono (by omega)) T.b_Sum_rule_word (fun _ => pass0C)) (pe_either (pe_methS0 (pv 1) T.zf.ins_Less.cl T.me_Less_rule_word (ok_Less_rule_word T) (hr.mono (by omega)) T.b_Less_rule_word (fun _ => pass0C)) (pe_either (pe_methS0 (pv 1) T.zf.ins_Least.cl T.me_Least_rule_word (ok_Least_rule_word T) (hr.mono (by omega)) T.b_Least_rule_word (fun _ => pass0C)) (pe_either (pe_methS0 (pv 1) T.zf.ins_Greatest.cl T.me_Greatest_rule_word (ok_Greatest_rule_word T) (hr.mono (by omega)) T.b_Greatest_rule_word (fun _ => pass0C)) (pe_methS0 (pv 1) T.zf.ins_Same.cl T.me_Same_rule_word (ok_Same_rule_word T) (hr.mono (by omega)) T.b_Same_rule_word (fun _ => pass0C)))))))))))) (by rfl))))))) (fun E xs out h => (rd_is_kept K Z E) ▸ sd_run (Hy := HY Z) T.zf h)
theorem ok_is_name (T : Txt K mg Z) : FnOk P w K mg base CX0 3 T.a_is_name T.d_is_name ["thing"] (spD K (RF (F_is_name Z))) :=
  ok_def (t := t_is_name K Z) T.F_is_name sc_is_name hl_run (fun cdv A outer s H E hr =>
    (pss_cons (ps_if (PW.pt (pw_or (pt_not (pt_truth (pe_callB call_isU (by rfl) T.n_isinstance (by decide +kernel) (pa_cons (pv 0) (pa_cons (pe_bltn (v := .ty "str") (by rfl) T.n_str (by decide +kernel) rfl) pa_nil))) (by intro _; rfl))) (pw_or1 (pt_not (pt_chain op_le op_le pe_int (pe_callB call_len (by rfl) T.n_len (by decide +kernel) (pa_cons (pv 0) pa_nil)) (pe_glob (v := .int 8) (by rfl) T.g_MOST_LETTERS ⟨_, rfl⟩))))))
    (pss_one (ps_ret pe_bl)) pss_nil)
    (pss_one (ps_ret (pe_andT (pe_callB (cr_all rfl) (by rfl) T.n_all (by decide +kernel) (pa_cons (pe_lc (own := [("sign", 1)]) (by rfl) sc_is_name.nd (pi_str (pv 0)) (blkOk_by (own := [("sign", 1)]) (N := N_is_name) (sc := defScope s_is_name) (by decide +kernel)) (fun _ _ _ _ _ => (pg_name (i := 1) sc_is_name.nd rfl (by first | exact Or.inl rfl | exact Or.inr rfl))) (fun _ _ _ _ _ => pts_nil) (fun _ _ _ _ _ => (pe_cmpR op_inU (pv 1) (pe_glob (v := .str "abcdefghijklmnopqrstuvwxyz") (by rfl) T.g_SMALL ⟨_, rfl⟩) (by rfl)))) pa_nil)) (pe_one (pe_notT (pe_call (ok_is_kept T) (hr.mono (by omega)) (by rfl) T.g_is_kept T.F_is_kept.kp T.b_is_kept .nil pass0 (pa_cons (pv 0) pa_nil))))))))) (fun E xs out h => (rd_is_name K Z E) ▸ sd_run (Hy := HY Z) T.zf h)
theorem ok_need_fit (T : Txt K mg Z) : FnOk P w K mg base (L2.CX P w) 1 T.a_need_fit T.d_need_fit ["good"] (spD K (RF (F_need_fit Z))) :=
  ok_defX (t := t_need_fit K Z) T.F_need_fit sc_need_fit hl_run (fun cdv A outer s H E hr =>
    (pss_one (ps_if (pt_not (pt_truth (pv 0) (by intro _; rfl)))
    (pss_one (ps_raise rfl (takes_of rfl rfl rfl rfl) (pmk_own PySem.F.excBase_ValueError T.xi_NoTree T.g_NoTree T.kp_NoTree (raises_own T.xb_NoTree T.ty_NoTree) (by exact rfl)))) pss_nil))) (fun E xs out h => (rd_need_fit K Z E) ▸ sd_run (Hy := HY Z) T.zf h)
theorem ok_Named_init (T : Txt K mg Z) : FnOk P w K mg base (L2.CX P w) 4 T.a_Named_init T.d_Named_init ["self", "name"] (spI K Z.Named (RI Z.Named (F_Named_init Z))) :=
  ok_initX (t := t_Named_init K Z) T.F_Named_init sc_Named_init hl_runI (by decide) (fun cdv A outer s H E hr =>
    (pss_cons (ps_expr (pe_callS (ok_need_fit T) (hr.mono (by omega)) (by rfl) T.g_need_fit T.F_need_fit.kp T.b_need_fit (fun σ => passAt (takes_of rfl rfl rfl rfl) σ) (pa_cons (pe_call (ok_is_name T) (hr.mono (by omega)) (by rfl) T.g_is_name T.F_is_name.kp T.b_is_name .nil pass0 (pa_cons (pv 1) pa_nil)) pa_nil)))
    (pss_one (ps_fld (pv 0) (pv 1) rfl)))) (fun E x xs out h => (rd_Named_init K Z E) ▸ sd_runI (Hy := HY Z) T.zf h)
theorem ok_is_place (T : Txt K mg Z) : FnOk P w K mg base CX0 1 T.a_is_place T.d_is_place ["thing"] (spD K (RF (F_is_place Z))) :=
  ok_def (t := t_is_place K Z) T.F_is_place sc_is_place hl_run (fun cdv A outer s H E hr =>
    (pss_one (ps_ret (pe_andT (pe_callB call_isU (by rfl) T.n_isinstance (by decide +kernel) (pa_cons (pv 0) (pa_cons (pe_bltn (v := .ty "int") (by rfl) T.n_int (by decide +kernel) rfl) pa_nil))) (pe_one (pe_notT (pe_callB call_isU (by rfl) T.n_isinstance (by decide +kernel) (pa_cons (pv 0) (pa_cons (pe_bltn (v := .ty "bool") (by rfl) T.n_bool (by decide +kernel) rfl) pa_nil))))))))) (fun E xs out h => (rd_is_place K Z E) ▸ sd_run (Hy := HY Z) T.zf h)
theorem ok_is_value (T : Txt K mg Z) : FnOk P w K mg base CX0 2 T.a_is_value T.d_is_value ["thing"] (spD K (RF (F_is_value Z))) :=
  ok_def (t := t_is_value K Z) T.F_is_value sc_is_value hl_run (fun cdv A outer s H E hr =>
    (pss_one (ps_ret (pe_orT (pe_cmpR op_isN1 (pv 0) pe_non (nomark _)) (pe_one (pe_call (ok_is_place T) (hr.mono (by omega)) (by rfl) T.g_is_place T.F_is_place.kp T.b_is_place .nil pass0 (pa_cons (pv 0) pa_nil))))))) (fun E xs out h => (rd_is_value K Z E) ▸ sd_run (Hy := HY Z) T.zf h)
theorem ok_Flat_init (T : Txt K mg Z) : FnOk P w K mg base (L2.CX P w) 3 T.a_Flat_init T.d_Flat_init ["self", "value"] (spI K Z.Flat (RI Z.Flat (F_Flat_init Z))) :=
  ok_initX (t := t_Flat_init K Z) T.F_Flat_init sc_Flat_init hl_runI (by decide) (fun cdv A outer s H E hr =>
    (pss_cons (ps_expr (pe_callS (ok_need_fit T) (hr.mono (by omega)) (by rfl) T.g_need_fit T.F_need_fit.kp T.b_need_fit (fun σ => passAt (takes_of rfl rfl rfl rfl) σ) (pa_cons (pe_call (ok_is_value T) (hr.mono (by omega)) (by rfl) T.g_is_value T.F_is_value.kp T.b_is_value .nil pass0 (pa_cons (pv 1) pa_nil)) pa_nil)))
    (pss_one (ps_fld (pv 0) (pv 1) rfl)))) (fun E x xs out h => (rd_Flat_init K Z E) ▸ sd_runI (Hy := HY Z) T.zf h)
theorem ok_is_span (T : Txt K mg Z) : FnOk P w K mg base CX0 2 T.a_is_span T.d_is_span ["thing"] (spD K (RF (F_is_span Z))) :=
  ok_def (t := t_is_span K Z) T.F_is_span sc_is_span hl_run (fun cdv A outer s H E hr =>
    (pss_cons (ps_if (PW.pt (pw_or (pt_not (pt_truth (pe_callB call_isU (by rfl) T.n_isinstance (by decide +kernel) (pa_cons (pv 0) (pa_cons (pe_bltn (v := .ty "tuple") (by rfl) T.n_tuple (by decide +kernel) rfl) pa_nil))) (by intro _; rfl))) (pw_or1 (pt_cmpR (op_neU hr.units) (pe_callB call_len (by rfl) T.n_len (by decide +kernel) (pa_cons (pv 0) pa_nil)) pe_int (nomark _)))))
    (pss_one (ps_ret pe_bl)) pss_nil)
    (pss_cons (ps_if (pt_not (pt_truth (pe_callB (cr_all rfl) (by rfl) T.n_all (by decide +kernel) (pa_cons (pe_lc (own := [("end", 1)]) (by rfl) sc_is_span.nd (pi_seq (pv 0)) (blkOk_by (own := [("end", 1)]) (N := N_is_span) (sc := defScope s_is_span) (by decide +kernel)) (fun _ _ _ _ _ => (pg_name (i := 1) sc_is_span.nd rfl (by first | exact Or.inl rfl | exact Or.inr rfl))) (fun _ _ _ _ _ => pts_nil) (fun _ _ _ _ _ => (pe_orT (pe_cmpR op_isN1 (pv 1) pe_non (nomark _)) (pe_one (pe_call (ok_is_place T) (hr.mono (by omega)) (by rfl) T.g_is_place T.F_is_place.kp T.b_is_place .nil pass0 (pa_cons (pv 1) pa_nil)))))) pa_nil)) (by intro _; rfl)))
    (pss_one (ps_ret pe_bl)) pss_nil)
    (pss_one (ps_ret (pe_orT (pe_cmpR op_isN1 (pe_ix ix_seq (pv 0) pe_int (fun _ _ => rfl)) pe_non (nomark _)) (pe_orT (pe_cmpR op_isN1 (pe_ix ix_seq (pv 0) pe_int (fun _ _ => rfl)) pe_non (nomark _)) (pe_one (pe_cmpR op_le (pe_ix ix_seq (pv 0) pe_int (fun _ _ => rfl)) (pe_ix ix_seq (pv 0) pe_int (fun _ _ => rfl)) (nomark _)))))))))) (fun E xs out h => (rd_is_span K Z E) ▸ sd_run (Hy := HY Z) T.zf h)
theorem ok_Only_init (T : Txt K mg Z) : FnOk P w K mg base (L2.CX P w) 3 T.a_Only_init T.d_Only_init ["self", "tree", "span"] (spI K Z.Only (RI Z.Only (F_Only_init Z))) :=
  ok_initX (t := t_Only_init K Z) T.F_Only_init sc_Only_init hl_runI (by decide) (fun cdv A outer s H E hr =>
    (pss_cons (ps_expr (pe_callS (ok_need_fit T) (hr.mono (by omega)) (by rfl) T.g_need_fit T.F_need_fit.kp T.b_need_fit (fun σ => passAt (takes_of rfl rfl rfl rfl) σ) (pa_cons (pe_andT (pe_callB call_isU (by rfl) T.n_isinstance (by decide +kernel) (pa_cons (pv 1) (pa_cons (pe_glob (v := .ref Z.Tree) (by rfl) T.g_Tree rfl) pa_nil))) (pe_one (pe_call (ok_is_span T) (hr.mono (by omega)) (by rfl) T.g_is_span T.F_is_span.kp T.b_is_span .nil pass0 (pa_cons (pv 2) pa_nil)))) pa_nil)))
    (pss_cons (ps_fld (pv 0) (pv 1) rfl)
    (pss_one (ps_fld (pv 0) (pv 2) rfl))))) (fun E x xs out h => (rd_Only_init K Z E) ▸ sd_runI (Hy := HY Z) T.zf h)
theorem ok_Shifted_init (T : Txt K mg Z) : FnOk P w K mg base (L2.CX P w) 2 T.a_Shifted_init T.d_Shifted_init ["self", "tree", "by"] (spI K Z.Shifted (RI Z.Shifted (F_Shifted_init Z))) :=
  ok_initX (t := t_Shifted_init K Z) T.F_Shifted_init sc_Shifted_init hl_runI (by decide) (fun cdv A outer s H E hr =>
    (pss_cons (ps_expr (pe_callS (ok_need_fit T) (hr.mono (by omega)) (by rfl) T.g_need_fit T.F_need_fit.kp T.b_need_fit (fun σ => passAt (takes_of rfl rfl rfl rfl) σ) (pa_cons (pe_andT (pe_callB call_isU (by rfl) T.n_isinstance (by decide +kernel) (pa_cons (pv 1) (pa_cons (pe_glob (v := .ref Z.Tree) (by rfl) T.g_Tree rfl) pa_nil))) (pe_one (pe_call (ok_is_place T) (hr.mono (by omega)) (by rfl) T.g_is_place T.F_is_place.kp T.b_is_place .nil pass0 (pa_cons (pv 2) pa_nil)))) pa_nil)))
    (pss_cons (ps_fld (pv 0) (pv 1) rfl)
    (pss_one (ps_fld (pv 0) (pv 2) rfl))))) (fun E x xs out h => (rd_Shifted_init K Z E) ▸ sd_runI (Hy := HY Z) T.zf h)
theorem ok_Flipped_init (T : Txt K mg Z) : FnOk P w K mg base (L2.CX P w) 2 T.a_Flipped_init T.d_Flipped_init ["self", "tree", "about"] (spI K Z.Flipped (RI Z.Flipped (F_Flipped_init Z))) :=
  ok_initX (t := t_Flipped_init K Z) T.F_Flipped_init sc_Flipped_init hl_runI (by decide) (fun cdv A outer s H E hr =>
    (pss_cons (ps_expr (pe_callS (ok_need_fit T) (hr.mono (by omega)) (by rfl) T.g_need_fit T.F_need_fit.kp T.b_need_fit (fun σ => passAt (takes_of rfl rfl rfl rfl) σ) (pa_cons (pe_andT (pe_callB call_isU (by rfl) T.n_isinstance (by decide +kernel) (pa_cons (pv 1) (pa_cons (pe_glob (v := .ref Z.Tree) (by rfl) T.g_Tree rfl) pa_nil))) (pe_one (pe_call (ok_is_place T) (hr.mono (by omega)) (by rfl) T.g_is_place T.F_is_place.kp T.b_is_place .nil pass0 (pa_cons (pv 2) pa_nil)))) pa_nil)))
    (pss_cons (ps_fld (pv 0) (pv 1) rfl)
    (pss_one (ps_fld (pv 0) (pv 2) rfl))))) (fun E x xs out h => (rd_Flipped_init K Z E) ▸ sd_runI (Hy := HY Z) T.zf h)
theorem ok_rule_by (T : Txt K mg Z) : FnOk P w K mg base CX0 2 T.a_rule_by T.d_rule_by ["text"] (spD K (RF (F_rule_by Z))) :=
  ok_def (t := t_rule_by K Z) T.F_rule_by sc_rule_by hl_run (fun cdv A outer s H E hr =>
    (pss_cons (ps_for PassesOwn.never rfl (pi_seq (pe_call0 (ok_all_rules T) (hr.mono (by omega)) (by rfl) T.g_all_rules T.F_all_rules.kp T.b_all_rules .nil pass0)) (pg_name (i := 1) sc_rule_by.nd rfl (by first | exact Or.inl rfl | exact Or.inr rfl))
    (pss_one (ps_if (pt_cmpR (op_eqU hr.units) (pe_either (pe_methS0 (pv 1) T.zf.ins_Rule.cl T.me_Rule_rule_word (ok_Rule_rule_word T) (hr.mono (by omega)) T.b_Rule_rule_word (fun _ => pass0C)) (pe_either (pe_methS0 (pv 1) T.zf.ins_Over.cl T.me_Over_rule_word (ok_Over_rule_word T) (hr.mono (by omega)) T.b_Over_rule_word (fun _ => pass0C)) (pe_either (pe_methS0 (pv 1) T.zf.ins_Where.cl T.me_Where_rule_word (ok_Where_rule_word T) (hr.mono (by omega)) T.b_Where_rule_word (fun _ => pass0C)) (pe_either (pe_methS0 (pv 1) T.zf.ins_Without.cl T.me_Without_rule_word (ok_Without_rule_word T) (hr.mono (by omega)) T.b_Without_rule_word (fun _ => pass0C)) (pe_either (pe_methS0 (pv 1) T.zf.ins_Sum.cl T.me_Sum_rule_word (ok_Sum_rule_word T) (hr.mono (by omega)) T.b_Sum_rule_word (fun _ => pass0C)) (pe_either (pe_methS0 (pv 1) T.zf.ins_Less.cl T.me_Less_rule_word (ok_Less_rule_word T) (hr.mono (by omega)) T.b_Less_rule_word (fun _ => pass0C)) (pe_either (pe_methS0 (pv 1) T.zf.ins_Least.cl T.me_Least_rule_word (ok_Least_rule_word T) (hr.mono (by omega)) T.b_Least_rule_word (fun _ => pass0C)) (pe_either (pe_methS0 (pv 1) T.zf.ins_Greatest.cl T.me_Greatest_rule_word (ok_Greatest_rule_word T) (hr.mono (by omega)) T.b_Greatest_rule_word (fun _ => pass0C)) (pe_methS0 (pv 1) T.zf.ins_Same.cl T.me_Same_rule_word (ok_Same_rule_word T) (hr.mono (by omega)) T.b_Same_rule_word (fun _ => pass0C)))))))))) (pv 0) (nomark _))
    (pss_one (ps_ret (pv 1))) pss_nil)))
    (pss_one (ps_ret pe_non)))) (fun E xs out h => (rd_rule_by K Z E) ▸ sd_run (Hy := HY Z) T.zf h)
theorem ok_Joint_init (T : Txt K mg Z) : FnOk P w K mg base (L2.CX P w) 3 T.a_Joint_init T.d_Joint_init ["self", "title", "one", "other"] (spI K Z.Joint (RI Z.Joint (F_Joint_init Z))) :=
  ok_initX (t := t_Joint_init K Z) T.F_Joint_init sc_Joint_init hl_runI (by decide) (fun cdv A outer s H E hr =>
    (pss_cons (ps_expr (pe_callS (ok_need_fit T) (hr.mono (by omega)) (by rfl) T.g_need_fit T.F_need_fit.kp T.b_need_fit (fun σ => passAt (takes_of rfl rfl rfl rfl) σ) (pa_cons (pe_andT (pe_callB call_isU (by rfl) T.n_isinstance (by decide +kernel) (pa_cons (pv 1) (pa_cons (pe_bltn (v := .ty "str") (by rfl) T.n_str (by decide +kernel) rfl) pa_nil))) (pe_one (pe_cmpR op_notN1 (pe_call (ok_rule_by T) (hr.mono (by omega)) (by rfl) T.g_rule_by T.F_rule_by.kp T.b_rule_by .nil pass0 (pa_cons (pv 1) pa_nil)) pe_non (nomark _)))) pa_nil)))
    (pss_cons (ps_expr (pe_callS (ok_need_fit T) (hr.mono (by omega)) (by rfl) T.g_need_fit T.F_need_fit.kp T.b_need_fit (fun σ => passAt (takes_of rfl rfl rfl rfl) σ) (pa_cons (pe_andT (pe_callB call_isU (by rfl) T.n_isinstance (by decide +kernel) (pa_cons (pv 2) (pa_cons (pe_glob (v := .ref Z.Tree) (by rfl) T.g_Tree rfl) pa_nil))) (pe_one (pe_callB call_isU (by rfl) T.n_isinstance (by decide +kernel) (pa_cons (pv 3) (pa_cons (pe_glob (v := .ref Z.Tree) (by rfl) T.g_Tree rfl) pa_nil))))) pa_nil)))
    (pss_cons (ps_fld (pv 0) (pv 1) rfl)
    (pss_cons (ps_fld (pv 0) (pv 2) rfl)
    (pss_one (ps_fld (pv 0) (pv 3) rfl))))))) (fun E x xs out h => (rd_Joint_init K Z E) ▸ sd_runI (Hy := HY Z) T.zf h)
theorem ok_Tree_limbs (T : Txt K mg Z) : FnOk P w K mg base CX0 1 T.a_Tree_limbs T.d_Tree_limbs ["self"] (spD K (RF (F_Tree_limbs Z))) :=
  ok_def (t := t_Tree_limbs K Z) T.F_Tree_limbs sc_Tree_limbs hl_run (fun cdv A outer s H E hr =>
    (pss_one (ps_ret (pe_tupP pa_nil)))) (fun E xs out h => (rd_Tree_limbs K Z E) ▸ sd_run (Hy := HY Z) T.zf h)
theorem ok_Tree_own_names (T : Txt K mg Z) : FnOk P w K mg base CX0 1 T.a_Tree_own_names T.d_Tree_own_names ["self"] (spD K (RF (F_Tree_own_names Z))) :=
  ok_def (t := t_Tree_own_names K Z) T.F_Tree_own_names sc_Tree_own_names hl_run (fun cdv A outer s H E hr =>
    (pss_one (ps_ret (pe_lst pa_nil)))) (fun E xs out h => (rd_Tree_own_names K Z E) ▸ sd_run (Hy := HY Z) T.zf h)
theorem ok_Named_own_names (T : Txt K mg Z) : FnOk P w K mg base CX0 1 T.a_Named_own_names T.d_Named_own_names ["self"] (spD K (RF (F_Named_own_names Z))) :=
  ok_def (t := t_Named_own_names K Z) T.F_Named_own_names sc_Named_own_names hl_run (fun cdv A outer s H E hr =>
    (pss_one (ps_ret (pe_lst (pa_cons (pe_fld (pv 0) rfl) pa_nil))))) (fun E xs out h => (rd_Named_own_names K Z E) ▸ sd_run (Hy := HY Z) T.zf h)
theorem ok_Named_told (T : Txt K mg Z) : FnOk P w K mg base CX0 1 T.a_Named_told T.d_Named_told ["self"] (spD K (RF (F_Named_told Z))) :=
  ok_def (t := t_Named_told K Z) T.F_Named_told sc_Named_told hl_run (fun cdv A outer s H E hr =>
    (pss_one (ps_ret (pe_tupP (pa_cons pe_str (pa_cons (pe_fld (pv 0) rfl) pa_nil)))))) (fun E xs out h => (rd_Named_told K Z E) ▸ sd_run (Hy := HY Z) T.zf h)
theorem ok_Flat_told (T : Txt K mg Z) : FnOk P w K mg base CX0 1 T.a_Flat_told T.d_Flat_told ["self"] (spD K (RF (F_Flat_told Z))) :=
  ok_def (t := t_Flat_told K Z) T.F_Flat_told sc_Flat_told hl_run (fun cdv A outer s H E hr =>
    (pss_one (ps_ret (pe_tupP (pa_cons pe_str (pa_cons (pe_fld (pv 0) rfl) pa_nil)))))) (fun E xs out h => (rd_Flat_told K Z E) ▸ sd_run (Hy := HY Z) T.zf h)
theorem ok_Only_limbs (T : Txt K mg Z) : FnOk P w K mg base CX0 1 T.a_Only_limbs T.d_Only_limbs ["self"] (spD K (RF (F_Only_limbs Z))) :=
  ok_def (t := t_Only_limbs K Z) T.F_Only_limbs sc_Only_limbs hl_run (fun cdv A outer s H E hr =>
    (pss_one (ps_ret (pe_tupP (pa_cons (pe_fld (pv 0) rfl) pa_nil))))) (fun E xs out h => (rd_Only_limbs K Z E) ▸ sd_run (Hy := HY Z) T.zf h)
theorem okr_Joint_told (T : Txt K mg Z) (F1 : List D → M S) (F2 : Nat → List D → M S) (n : Nat) (hF : F1 = runF (b_Joint_told Z F2) 1 1) (FR0 : FnOk P w K mg base CX0 (n + 1) T.a_Only_told T.d_Only_told ["self"] (spD K (RF (F2 0)))) (FR1 : FnOk P w K mg base CX0 (n + 1) T.a_Shifted_told T.d_Shifted_told ["self"] (spD K (RF (F2 1)))) (FR2 : FnOk P w K mg base CX0 (n + 1) T.a_Flipped_told T.d_Flipped_told ["self"] (spD K (RF (F2 2)))) (FR3 : FnOk P w K mg base CX0 (n + 1) T.a_Joint_told T.d_Joint_told ["self"] (spD K (RF (F2 3)))) : FnOk P w K mg base CX0 (n + 2) T.a_Joint_told T.d_Joint_told ["self"] (spD K (RF F1)) := by
  subst hF
  exact ok_def (t := t_Joint_told K Z F2) T.F_Joint_told sc_Joint_told hl_run (fun cdv A outer s H E hr =>
    (pss_one (ps_ret (pe_tupP (pa_cons pe_str (pa_cons (pe_fld (pv 0) rfl) (pa_cons (pe_either (pe_methS0 (pe_fld (pv 0) rfl) T.zf.ins_Named.cl T.me_Named_told (ok_Named_told T) (hr.mono (by omega)) T.b_Named_told (fun _ => pass0C)) (pe_either (pe_methS0 (pe_fld (pv 0) rfl) T.zf.ins_Flat.cl T.me_Flat_told (ok_Flat_told T) (hr.mono (by omega)) T.b_Flat_told (fun _ => pass0C)) (pe_either (pe_methS0 (pe_fld (pv 0) rfl) T.zf.ins_Only.cl T.me_Only_told FR0 (hr.mono (by omega)) T.b_Only_told (fun _ => pass0C)) (pe_either (pe_methS0 (pe_fld (pv 0) rfl) T.zf.ins_Shifted.cl T.me_Shifted_told FR1 (hr.mono (by omega)) T.b_Shifted_told (fun _ => pass0C)) (pe_either (pe_methS0 (pe_fld (pv 0) rfl) T.zf.ins_Flipped.cl T.me_Flipped_told FR2 (hr.mono (by omega)) T.b_Flipped_told (fun _ => pass0C)) (pe_methS0 (pe_fld (pv 0) rfl) T.zf.ins_Joint.cl T.me_Joint_told FR3 (hr.mono (by omega)) T.b_Joint_told (fun _ => pass0C))))))) (pa_cons (pe_either (pe_methS0 (pe_fld (pv 0) rfl) T.zf.ins_Named.cl T.me_Named_told (ok_Named_told T) (hr.mono (by omega)) T.b_Named_told (fun _ => pass0C)) (pe_either (pe_methS0 (pe_fld (pv 0) rfl) T.zf.ins_Flat.cl T.me_Flat_told (ok_Flat_told T) (hr.mono (by omega)) T.b_Flat_told (fun _ => pass0C)) (pe_either (pe_methS0 (pe_fld (pv 0) rfl) T.zf.ins_Only.cl T.me_Only_told FR0 (hr.mono (by omega)) T.b_Only_told (fun _ => pass0C)) (pe_either (pe_methS0 (pe_fld (pv 0) rfl) T.zf.ins_Shifted.cl T.me_Shifted_told FR1 (hr.mono (by omega)) T.b_Shifted_told (fun _ => pass0C)) (pe_either (pe_methS0 (pe_fld (pv 0) rfl) T.zf.ins_Flipped.cl T.me_Flipped_told FR2 (hr.mono (by omega)) T.b_Flipped_told (fun _ => pass0C)) (pe_methS0 (pe_fld (pv 0) rfl) T.zf.ins_Joint.cl T.me_Joint_told FR3 (hr.mono (by omega)) T.b_Joint_told (fun _ => pass0C))))))) pa_nil)))))))) (fun E xs out h => (rd_Joint_told K Z E F2) ▸ sd_run (Hy := HY Z) T.zf h)
theorem okr_Flipped_told (T : Txt K mg Z) (F1 : List D → M S) (F2 : Nat → List D → M S) (n : Nat) (hF : F1 = runF (b_Flipped_told Z F2) 1 1) (FR0 : FnOk P w K mg base CX0 (n + 1) T.a_Only_told T.d_Only_told ["self"] (spD K (RF (F2 0)))) (FR1 : FnOk P w K mg base CX0 (n + 1) T.a_Shifted_told T.d_Shifted_told ["self"] (spD K (RF (F2 1)))) (FR2 : FnOk P w K mg base CX0 (n + 1) T.a_Flipped_told T.d_Flipped_told ["self"] (spD K (RF (F2 2)))) (FR3 : FnOk P w K mg base CX0 (n + 1) T.a_Joint_told T.d_Joint_told ["self"] (spD K (RF (F2 3)))) : FnOk P w K mg base CX0 (n + 2) T.a_Flipped_told T.d_Flipped_told ["self"] (spD K (RF F1)) := by
  subst hF
  exact ok_def (t := t_Flipped_told K Z F2) T.F_Flipped_told sc_Flipped_told hl_run (fun cdv A outer s H E hr =>
    (pss_one (ps_ret (pe_tupP (pa_cons pe_str (pa_cons (pe_either (pe_methS0 (pe_fld (pv 0) rfl) T.zf.ins_Named.cl T.me_Named_told (ok_Named_told T) (hr.mono (by omega)) T.b_Named_told (fun _ => pass0C)) (pe_either (pe_methS0 (pe_fld (pv 0) rfl) T.zf.ins_Flat.cl T.me_Flat_told (ok_Flat_told T) (hr.mono (by omega)) T.b_Flat_told (fun _ => pass0C)) (pe_either (pe_methS0 (pe_fld (pv 0) rfl) T.zf.ins_Only.cl T.me_Only_told FR0 (hr.mono (by omega)) T.b_Only_told (fun _ => pass0C)) (pe_either (pe_methS0 (pe_fld (pv 0) rfl) T.zf.ins_Shifted.cl T.me_Shifted_told FR1 (hr.mono (by omega)) T.b_Shifted_told (fun _ => pass0C)) (pe_either (pe_methS0 (pe_fld (pv 0) rfl) T.zf.ins_Flipped.cl T.me_Flipped_told FR2 (hr.mono (by omega)) T.b_Flipped_told (fun _ => pass0C)) (pe_methS0 (pe_fld (pv 0) rfl) T.zf.ins_Joint.cl T.me_Joint_told FR3 (hr.mono (by omega)) T.b_Joint_told (fun _ => pass0C))))))) (pa_cons (pe_fld (pv 0) rfl) pa_nil))))))) (fun E xs out h => (rd_Flipped_told K Z E F2) ▸ sd_run (Hy := HY Z) T.zf h)
theorem okr_Shifted_told (T : Txt K mg Z) (F1 : List D → M S) (F2 : Nat → List D → M S) (n : Nat) (hF : F1 = runF (b_Shifted_told Z F2) 1 1) (FR0 : FnOk P w K mg base CX0 (n + 1) T.a_Only_told T.d_Only_told ["self"] (spD K (RF (F2 0)))) (FR1 : FnOk P w K mg base CX0 (n + 1) T.a_Shifted_told T.d_Shifted_told ["self"] (spD K (RF (F2 1)))) (FR2 : FnOk P w K mg base CX0 (n + 1) T.a_Flipped_told T.d_Flipped_told ["self"] (spD K (RF (F2 2)))) (FR3 : FnOk P w K mg base CX0 (n + 1) T.a_Joint_told T.d_Joint_told ["self"] (spD K (RF (F2 3)))) : FnOk P w K mg base CX0 (n + 2) T.a_Shifted_told T.d_Shifted_told ["self"] (spD K (RF F1)) := by
  subst hF
  exact ok_def (t := t_Shifted_told K Z F2) T.F_Shifted_told sc_Shifted_told hl_run (fun cdv A outer s H E hr =>
    (pss_one (ps_ret (pe_tupP (pa_cons pe_str (pa_cons (pe_either (pe_methS0 (pe_fld (pv 0) rfl) T.zf.ins_Named.cl T.me_Named_told (ok_Named_told T) (hr.mono (by omega)) T.b_Named_told (fun _ => pass0C)) (pe_either (pe_methS0 (pe_fld (pv 0) rfl) T.zf.ins_Flat.cl T.me_Flat_told (ok_Flat_told T) (hr.mono (by omega)) T.b_Flat_told (fun _ => pass0C)) (pe_either (pe_methS0 (pe_fld (pv 0) rfl) T.zf.ins_Only.cl T.me_Only_told FR0 (hr.mono (by omega)) T.b_Only_told (fun _ => pass0C)) (pe_either (pe_methS0 (pe_fld (pv 0) rfl) T.zf.ins_Shifted.cl T.me_Shifted_told FR1 (hr.mono (by omega)) T.b_Shifted_told (fun _ => pass0C)) (pe_either (pe_methS0 (pe_fld (pv 0) rfl) T.zf.ins_Flipped.cl T.me_Flipped_told FR2 (hr.mono (by omega)) T.b_Flipped_told (fun _ => pass0C)) (pe_methS0 (pe_fld (pv 0) rfl) T.zf.ins_Joint.cl T.me_Joint_told FR3 (hr.mono (by omega)) T.b_Joint_told (fun _ => pass0C))))))) (pa_cons (pe_fld (pv 0) rfl) pa_nil))))))) (fun E xs out h => (rd_Shifted_told K Z E F2) ▸ sd_run (Hy := HY Z) T.zf h)
theorem okr_Only_told (T : Txt K mg Z) (F1 : List D → M S) (F2 : Nat → List D → M S) (n : Nat) (hF : F1 = runF (b_Only_told Z F2) 1 1) (FR0 : FnOk P w K mg base CX0 (n + 1) T.a_Only_told T.d_Only_told ["self"] (spD K (RF (F2 0)))) (FR1 : FnOk P w K mg base CX0 (n + 1) T.a_Shifted_told T.d_Shifted_told ["self"] (spD K (RF (F2 1)))) (FR2 : FnOk P w K mg base CX0 (n + 1) T.a_Flipped_told T.d_Flipped_told ["self"] (spD K (RF (F2 2)))) (FR3 : FnOk P w K mg base CX0 (n + 1) T.a_Joint_told T.d_Joint_told ["self"] (spD K (RF (F2 3)))) : FnOk P w K mg base CX0 (n + 2) T.a_Only_told T.d_Only_told ["self"] (spD K (RF F1)) := by
  subst hF
  exact ok_def (t := t_Only_told K Z F2) T.F_Only_told sc_Only_told hl_run (fun cdv A outer s H E hr =>
    (pss_one (ps_ret (pe_tupP (pa_cons pe_str (pa_cons (pe_either (pe_methS0 (pe_fld (pv 0) rfl) T.zf.ins_Named.cl T.me_Named_told (ok_Named_told T) (hr.mono (by omega)) T.b_Named_told (fun _ => pass0C)) (pe_either (pe_methS0 (pe_fld (pv 0) rfl) T.zf.ins_Flat.cl T.me_Flat_told (ok_Flat_told T) (hr.mono (by omega)) T.b_Flat_told (fun _ => pass0C)) (pe_either (pe_methS0 (pe_fld (pv 0) rfl) T.zf.ins_Only.cl T.me_Only_told FR0 (hr.mono (by omega)) T.b_Only_told (fun _ => pass0C)) (pe_either (pe_methS0 (pe_fld (pv 0) rfl) T.zf.ins_Shifted.cl T.me_Shifted_told FR1 (hr.mono (by omega)) T.b_Shifted_told (fun _ => pass0C)) (pe_either (pe_methS0 (pe_fld (pv 0) rfl) T.zf.ins_Flipped.cl T.me_Flipped_told FR2 (hr.mono (by omega)) T.b_Flipped_told (fun _ => pass0C)) (pe_methS0 (pe_fld (pv 0) rfl) T.zf.ins_Joint.cl T.me_Joint_told FR3 (hr.mono (by omega)) T.b_Joint_told (fun _ => pass0C))))))) (pa_cons (pe_fld (pv 0) rfl) pa_nil))))))) (fun E xs out h => (rd_Only_told K Z E F2) ▸ sd_run (Hy := HY Z) T.zf h)
theorem okn_g0 (T : Txt K mg Z) : ∀ n : Nat, FnOk P w K mg base CX0 (n + 2) T.a_Only_told T.d_Only_told ["self"] (spD K (RF (Fg_0 Z n 0))) ∧ FnOk P w K mg base CX0 (n + 2) T.a_Shifted_told T.d_Shifted_told ["self"] (spD K (RF (Fg_0 Z n 1))) ∧ FnOk P w K mg base CX0 (n + 2) T.a_Flipped_told T.d_Flipped_told ["self"] (spD K (RF (Fg_0 Z n 2))) ∧ FnOk P w K mg base CX0 (n + 2) T.a_Joint_told T.d_Joint_told ["self"] (spD K (RF (Fg_0 Z n 3)))
  | 0 => ⟨okr_Only_told T _ (fun _ _ => .no) 0 rfl fnok_no fnok_no fnok_no fnok_no, okr_Shifted_told T _ (fun _ _ => .no) 0 rfl fnok_no fnok_no fnok_no fnok_no, okr_Flipped_told T _ (fun _ _ => .no) 0 rfl fnok_no fnok_no fnok_no fnok_no, okr_Joint_told T _ (fun _ _ => .no) 0 rfl fnok_no fnok_no fnok_no fnok_no⟩
  | n + 1 => have ih := okn_g0 T n
    ⟨okr_Only_told T _ _ (n + 1) rfl ((ih.1).mono (by omega)) ((ih.2.1).mono (by omega)) ((ih.2.2.1).mono (by omega)) ((ih.2.2.2).mono (by omega)), okr_Shifted_told T _ _ (n + 1) rfl ((ih.1).mono (by omega)) ((ih.2.1).mono (by omega)) ((ih.2.2.1).mono (by omega)) ((ih.2.2.2).mono (by omega)), okr_Flipped_told T _ _ (n + 1) rfl ((ih.1).mono (by omega)) ((ih.2.1).mono (by omega)) ((ih.2.2.1).mono (by omega)) ((ih.2.2.2).mono (by omega)), okr_Joint_told T _ _ (n + 1) rfl ((ih.1).mono (by omega)) ((ih.2.1).mono (by omega)) ((ih.2.2.1).mono (by omega)) ((ih.2.2.2).mono (by omega))⟩
theorem ok_Only_told (T : Txt K mg Z) : FnOk P w K mg base CX0 15 T.a_Only_told T.d_Only_told ["self"] (spD K (RF (F_Only_told Z))) := (okn_g0 T 13).1
theorem ok_Shifted_told (T : Txt K mg Z) : FnOk P w K mg base CX0 15 T.a_Shifted_told T.d_Shifted_told ["self"] (spD K (RF (F_Shifted_told Z))) := (okn_g0 T 13).2.1
theorem ok_Flipped_told (T : Txt K mg Z) : FnOk P w K mg base CX0 15 T.a_Flipped_told T.d_Flipped_told ["self"] (spD K (RF (F_Flipped_told Z))) := (okn_g0 T 13).2.2.1
theorem ok_Joint_told (T : Txt K mg Z) : FnOk P w K mg base CX0 15 T.a_Joint_told T.d_Joint_told ["self"] (spD K (RF (F_Joint_told Z))) := (okn_g0 T 13).2.2.2
theorem ok_Shifted_limbs (T : Txt K mg Z) : FnOk P w K mg base CX0 1 T.a_Shifted_limbs T.d_Shifted_limbs ["self"] (spD K (RF (F_Shifted_limbs Z))) :=
  ok_def (t := t_Shifted_limbs K Z) T.F_Shifted_limbs sc_Shifted_limbs hl_run (fun cdv A outer s H E hr =>
    (pss_one (ps_ret (pe_tupP (pa_cons (pe_fld (pv 0) rfl) pa_nil))))) (fun E xs out h => (rd_Shifted_limbs K Z E) ▸ sd_run (Hy := HY Z) T.zf h)
theorem ok_Flipped_limbs (T : Txt K mg Z) : FnOk P w K mg base CX0 1 T.a_Flipped_limbs T.d_Flipped_limbs ["self"] (spD K (RF (F_Flipped_limbs Z))) :=
  ok_def (t := t_Flipped_limbs K Z) T.F_Flipped_limbs sc_Flipped_limbs hl_run (fun cdv A outer s H E hr =>
    (pss_one (ps_ret (pe_tupP (pa_cons (pe_fld (pv 0) rfl) pa_nil))))) (fun E xs out h => (rd_Flipped_limbs K Z E) ▸ sd_run (Hy := HY Z) T.zf h)
theorem ok_Joint_limbs (T : Txt K mg Z) : FnOk P w K mg base CX0 1 T.a_Joint_limbs T.d_Joint_limbs ["self"] (spD K (RF (F_Joint_limbs Z))) :=
  ok_def (t := t_Joint_limbs K Z) T.F_Joint_limbs sc_Joint_limbs hl_run (fun cdv A outer s H E hr =>
    (pss_one (ps_ret (pe_tupP (pa_cons (pe_fld (pv 0) rfl) (pa_cons (pe_fld (pv 0) rfl) pa_nil)))))) (fun E xs out h => (rd_Joint_limbs K Z E) ▸ sd_run (Hy := HY Z) T.zf h)
theorem okr_all_parts (T : Txt K mg Z) (F1 F2 : List D → M S) (n : Nat) (hF : F1 = runF (b_all_parts Z F2) 3 1) (FR : FnOk P w K mg base CX0 (n + 1) T.a_all_parts T.d_all_parts ["tree"] (spD K (RF F2))) : FnOk P w K mg base CX0 (n + 2) T.a_all_parts T.d_all_parts ["tree"] (spD K (RF F1)) := by
  subst hF
  exact ok_def (t := t_all_parts K Z F2) T.F_all_parts sc_all_parts hl_run (fun cdv A outer s H E hr =>
    (pss_cons (ps_set (i := 1) sc_all_parts.nd rfl (by first | exact Or.inl rfl | exact Or.inr rfl) (pe_lst (pa_cons (pv 0) pa_nil)))
    (pss_cons (ps_for PassesOwn.never rfl (pi_seq (pe_either (pe_methS0 (pv 0) T.zf.ins_Tree.cl T.me_Tree_limbs (ok_Tree_limbs T) (hr.mono (by omega)) T.b_Tree_limbs (fun _ => pass0C)) (pe_either (pe_methS0 (pv 0) T.zf.ins_Named.cl T.me_Named_limbs (ok_Tree_limbs T) (hr.mono (by omega)) T.b_Tree_limbs (fun _ => pass0C)) (pe_either (pe_methS0 (pv 0) T.zf.ins_Flat.cl T.me_Flat_limbs (ok_Tree_limbs T) (hr.mono (by omega)) T.b_Tree_limbs (fun _ => pass0C)) (pe_either (pe_methS0 (pv 0) T.zf.ins_Only.cl T.me_Only_limbs (ok_Only_limbs T) (hr.mono (by omega)) T.b_Only_limbs (fun _ => pass0C)) (pe_either (pe_methS0 (pv 0) T.zf.ins_Shifted.cl T.me_Shifted_limbs (ok_Shifted_limbs T) (hr.mono (by omega)) T.b_Shifted_limbs (fun _ => pass0C)) (pe_either (pe_methS0 (pv 0) T.zf.ins_Flipped.cl T.me_Flipped_limbs (ok_Flipped_limbs T) (hr.mono (by omega)) T.b_Flipped_limbs (fun _ => pass0C)) (pe_methS0 (pv 0) T.zf.ins_Joint.cl T.me_Joint_limbs (ok_Joint_limbs T) (hr.mono (by omega)) T.b_Joint_limbs (fun _ => pass0C))))))))) (pg_name (i := 2) sc_all_parts.nd rfl (by first | exact Or.inl rfl | exact Or.inr rfl))
    (pss_one (ps_set (i := 1) sc_all_parts.nd rfl (by first | exact Or.inl rfl | exact Or.inr rfl) (pe_op op_addU (pv 1) (pe_call FR (hr.mono (by omega)) (by rfl) T.g_all_parts T.F_all_parts.kp T.b_all_parts .nil pass0 (pa_cons (pv 2) pa_nil))))))
    (pss_one (ps_ret (pv 1)))))) (fun E xs out h => (rd_all_parts K Z E F2) ▸ sd_run (Hy := HY Z) T.zf h)
theorem okn_all_parts (T : Txt K mg Z) : ∀ n : Nat, FnOk P w K mg base CX0 (n + 2) T.a_all_parts T.d_all_parts ["tree"] (spD K (RF (Fn_all_parts Z n)))
  | 0 => okr_all_parts T _ _ 0 rfl fnok_no
  | n + 1 => okr_all_parts T _ _ (n + 1) rfl ((okn_all_parts T n).mono (by omega))
theorem ok_all_parts (T : Txt K mg Z) : FnOk P w K mg base CX0 15 T.a_all_parts T.d_all_parts ["tree"] (spD K (RF (F_all_parts Z))) := okn_all_parts T 13
theorem ok_names_in (T : Txt K mg Z) : FnOk P w K mg base CX0 16 T.a_names_in T.d_names_in ["tree"] (spD K (RF (F_names_in Z))) :=
  ok_def (t := t_names_in K Z) T.F_names_in sc_names_in hl_run (fun cdv A outer s H E hr =>
    (pss_cons (ps_set (i := 1) sc_names_in.nd rfl (by first | exact Or.inl rfl | exact Or.inr rfl) (pe_lst pa_nil))
    (pss_cons (ps_for PassesOwn.never rfl (pi_seq (pe_call (ok_all_parts T) (hr.mono (by omega)) (by rfl) T.g_all_parts T.F_all_parts.kp T.b_all_parts .nil pass0 (pa_cons (pv 0) pa_nil))) (pg_name (i := 2) sc_names_in.nd rfl (by first | exact Or.inl rfl | exact Or.inr rfl))
    (pss_one (ps_set (i := 1) sc_names_in.nd rfl (by first | exact Or.inl rfl | exact Or.inr rfl) (pe_op op_addU (pv 1) (pe_either (pe_methS0 (pv 2) T.zf.ins_Tree.cl T.me_Tree_own_names (ok_Tree_own_names T) (hr.mono (by omega)) T.b_Tree_own_names (fun _ => pass0C)) (pe_either (pe_methS0 (pv 2) T.zf.ins_Named.cl T.me_Named_own_names (ok_Named_own_names T) (hr.mono (by omega)) T.b_Named_own_names (fun _ => pass0C)) (pe_either (pe_methS0 (pv 2) T.zf.ins_Flat.cl T.me_Flat_own_names (ok_Tree_own_names T) (hr.mono (by omega)) T.b_Tree_own_names (fun _ => pass0C)) (pe_either (pe_methS0 (pv 2) T.zf.ins_Only.cl T.me_Only_own_names (ok_Tree_own_names T) (hr.mono (by omega)) T.b_Tree_own_names (fun _ => pass0C)) (pe_either (pe_methS0 (pv 2) T.zf.ins_Shifted.cl T.me_Shifted_own_names (ok_Tree_own_names T) (hr.mono (by omega)) T.b_Tree_own_names (fun _ => pass0C)) (pe_either (pe_methS0 (pv 2) T.zf.ins_Flipped.cl T.me_Flipped_own_names (ok_Tree_own_names T) (hr.mono (by omega)) T.b_Tree_own_names (fun _ => pass0C)) (pe_methS0 (pv 2) T.zf.ins_Joint.cl T.me_Joint_own_names (ok_Tree_own_names T) (hr.mono (by omega)) T.b_Tree_own_names (fun _ => pass0C))))))))))))
    (pss_one (ps_ret (pe_sortTx (by rfl) T.n_sorted (by rfl) T.n_set (pv 1))))))) (fun E xs out h => (rd_names_in K Z E) ▸ sd_run (Hy := HY Z) T.zf h)
theorem ok_parts_in (T : Txt K mg Z) : FnOk P w K mg base CX0 16 T.a_parts_in T.d_parts_in ["tree"] (spD K (RF (F_parts_in Z))) :=
  ok_def (t := t_parts_in K Z) T.F_parts_in sc_parts_in hl_run (fun cdv A outer s H E hr =>
    (pss_one (ps_ret (pe_callB call_len (by rfl) T.n_len (by decide +kernel) (pa_cons (pe_call (ok_all_parts T) (hr.mono (by omega)) (by rfl) T.g_all_parts T.F_all_parts.kp T.b_all_parts .nil pass0 (pa_cons (pv 0) pa_nil)) pa_nil))))) (fun E xs out h => (rd_parts_in K Z E) ▸ sd_run (Hy := HY Z) T.zf h)
theorem ok_l_cell (T : Txt K mg Z) : FnOk P w K mg base CX0 1 T.a_l_cell T.d_l_cell ["_law_script", "_law_k"] (spD K (RF (F_l_cell Z))) :=
  ok_def (t := t_l_cell K Z) T.F_l_cell sc_l_cell hl_run (fun cdv A outer s H E hr =>
    (pss_cons (ps_set (i := 2) sc_l_cell.nd rfl (by first | exact Or.inl rfl | exact Or.inr rfl) (pe_op op_addU (pe_op op_mulU pe_int (pv 1)) pe_int))
    (pss_cons (ps_if (pt_cmpR (op_neU hr.units) (pv 0) (pe_lst pa_nil) (nomark _))
    (pss_cons (ps_set (i := 2) sc_l_cell.nd rfl (by first | exact Or.inl rfl | exact Or.inr rfl) (pe_op op_mulU (pe_ix ix_seq (pv 0) (pe_op op_mod (pv 1) (pe_callB call_len (by rfl) T.n_len (by decide +kernel) (pa_cons (pv 0) pa_nil))) (fun _ _ => rfl)) pe_int))
    (pss_one (ps_set (i := 2) sc_l_cell.nd rfl (by first | exact Or.inl rfl | exact Or.inr rfl) (pe_op op_addU (pe_op op_addU (pv 2) (pe_op op_mulU pe_int (pv 1))) (pe_op op_mulU (pe_op op_fdivW (pv 1) (pe_callB call_len (by rfl) T.n_len (by decide +kernel) (pa_cons (pv 0) pa_nil))) pe_int))))) pss_nil)
    (pss_cons (ps_set (i := 3) sc_l_cell.nd rfl (by first | exact Or.inl rfl | exact Or.inr rfl) (pe_op op_mod (pv 2) pe_int))
    (pss_cons (ps_set (i := 3) sc_l_cell.nd rfl (by first | exact Or.inl rfl | exact Or.inr rfl) (pe_op op_mod (pe_op op_mulU (pv 3) (pv 3)) pe_int))
    (pss_one (ps_ret (pe_op op_mod (pe_op op_addU (pe_op op_addU (pe_op op_mulU (pv 3) (pv 3)) (pe_op op_mulU pe_int (pv 3))) (pv 1)) pe_int)))))))) (fun E xs out h => (rd_l_cell K Z E) ▸ sd_run (Hy := HY Z) T.zf h)
theorem ok_l_value (T : Txt K mg Z) : FnOk P w K mg base CX0 1 T.a_l_value T.d_l_value ["_law_cell_here"] (spD K (RF (F_l_value Z))) :=
  ok_def (t := t_l_value K Z) T.F_l_value sc_l_value hl_run (fun cdv A outer s H E hr =>
    (pss_cons (ps_set (i := 1) sc_l_value.nd rfl (by first | exact Or.inl rfl | exact Or.inr rfl) (pe_op op_mulU (pe_op op_mulU (pv 0) (pv 0)) (pv 0)))
    (pss_cons (ps_set (i := 1) sc_l_value.nd rfl (by first | exact Or.inl rfl | exact Or.inr rfl) (pe_op op_mod (pe_op op_mulU (pe_op op_mulU (pv 1) (pv 1)) (pv 0)) (pe_op op_pow pe_int pe_int)))
    (pss_cons (ps_set (i := 2) sc_l_value.nd rfl (by first | exact Or.inl rfl | exact Or.inr rfl) (pe_op op_mod (pv 0) pe_int))
    (pss_cons (ps_if (pt_cmpR op_lt (pv 2) pe_int (nomark _))
    (pss_one (ps_ret (pe_ix ix_seq (pe_lst (pa_cons pe_non (pa_cons pe_int (pa_cons pe_int (pa_cons pe_int (pa_cons pe_non (pa_cons pe_int (pa_cons (pe_un un_neg pe_int) (pa_cons pe_int (pa_cons pe_int pa_nil)))))))))) (pv 2) (fun _ _ => rfl)))) pss_nil)
    (pss_one (ps_ret (pe_ix ix_seq (pe_lst (pa_cons (pe_op op_sub (pe_op op_mod (pe_op op_fdivW (pv 0) pe_int) pe_int) pe_int) (pa_cons (pv 1) (pa_cons (pe_un un_neg (pv 1)) pa_nil)))) (pe_op op_sub (pv 2) pe_int) (fun _ _ => rfl))))))))) (fun E xs out h => (rd_l_value K Z E) ▸ sd_run (Hy := HY Z) T.zf h)
theorem ok_l_word_of (T : Txt K mg Z) : FnOk P w K mg base CX0 1 T.a_l_word_of T.d_l_word_of ["_law_error"] (spD K (RF (F_l_word_of Z))) :=
  ok_def (t := t_l_word_of K Z) T.F_l_word_of sc_l_word_of hl_run (fun cdv A outer s H E hr =>
    (pss_cons (ps_set (i := 1) sc_l_word_of.nd rfl (by first | exact Or.inl rfl | exact Or.inr rfl) (pe_lst (pa_cons (pe_callB call_isU (by rfl) T.n_isinstance (by decide +kernel) (pa_cons (pv 0) (pa_cons (pe_glob (v := .ref Z.NoSpan) (by rfl) T.g_NoSpan rfl) pa_nil))) (pa_cons (pe_callB call_isU (by rfl) T.n_isinstance (by decide +kernel) (pa_cons (pv 0) (pa_cons (pe_glob (v := .ref Z.NoValue) (by rfl) T.g_NoValue rfl) pa_nil))) (pa_cons (pe_callB call_isU (by rfl) T.n_isinstance (by decide +kernel) (pa_cons (pv 0) (pa_cons (pe_glob (v := .ref Z.NoPlace) (by rfl) T.g_NoPlace rfl) pa_nil))) pa_nil)))))
    (pss_cons (ps_set (i := 1) sc_l_word_of.nd rfl (by first | exact Or.inl rfl | exact Or.inr rfl) (pe_op op_addU (pv 1) (pe_lst (pa_cons (pe_callB call_isU (by rfl) T.n_isinstance (by decide +kernel) (pa_cons (pv 0) (pa_cons (pe_glob (v := .ref Z.NoCount) (by rfl) T.g_NoCount rfl) pa_nil))) (pa_cons (pe_callB call_isU (by rfl) T.n_isinstance (by decide +kernel) (pa_cons (pv 0) (pa_cons (pe_glob (v := .ref Z.NoRow) (by rfl) T.g_NoRow rfl) pa_nil))) (pa_cons (pe_callB call_isU (by rfl) T.n_isinstance (by decide +kernel) (pa_cons (pv 0) (pa_cons (pe_glob (v := .ref Z.NoWord) (by rfl) T.g_NoWord rfl) pa_nil))) pa_nil))))))
    (pss_cons (ps_set (i := 1) sc_l_word_of.nd rfl (by first | exact Or.inl rfl | exact Or.inr rfl) (pe_op op_addU (pv 1) (pe_lst (pa_cons (pe_callB call_isU (by rfl) T.n_isinstance (by decide +kernel) (pa_cons (pv 0) (pa_cons (pe_glob (v := .ref Z.NoName) (by rfl) T.g_NoName rfl) pa_nil))) (pa_cons (pe_callB call_isU (by rfl) T.n_isinstance (by decide +kernel) (pa_cons (pv 0) (pa_cons (pe_glob (v := .ref Z.NoTree) (by rfl) T.g_NoTree rfl) pa_nil))) (pa_cons (pe_callB call_isU (by rfl) T.n_isinstance (by decide +kernel) (pa_cons (pv 0) (pa_cons (pe_glob (v := .ref Z.TooMany) (by rfl) T.g_TooMany rfl) pa_nil))) pa_nil))))))
    (pss_cons (ps_set (i := 1) sc_l_word_of.nd rfl (by first | exact Or.inl rfl | exact Or.inr rfl) (pe_op op_addU (pv 1) (pe_lst (pa_cons (pe_callB call_isU (by rfl) T.n_isinstance (by decide +kernel) (pa_cons (pv 0) (pa_cons (pe_glob (v := .ref Z.NoText) (by rfl) T.g_NoText rfl) pa_nil))) (pa_cons (pe_callB call_isU (by rfl) T.n_isinstance (by decide +kernel) (pa_cons (pv 0) (pa_cons (pe_glob (v := .ref Z.NoWheel) (by rfl) T.g_NoWheel rfl) pa_nil))) (pa_cons (pe_callB call_isU (by rfl) T.n_isinstance (by decide +kernel) (pa_cons (pv 0) (pa_cons (pe_glob (v := .ref Z.NoWalker) (by rfl) T.g_NoWalker rfl) pa_nil))) pa_nil))))))
    (pss_cons (ps_set (i := 2) sc_l_word_of.nd rfl (by first | exact Or.inl rfl | exact Or.inr rfl) (pe_lst (pa_cons pe_str (pa_cons pe_str (pa_cons pe_str (pa_cons pe_str (pa_cons pe_str (pa_cons pe_str (pa_cons pe_str (pa_cons pe_str (pa_cons pe_str pa_nil)))))))))))
    (pss_cons (ps_set (i := 2) sc_l_word_of.nd rfl (by first | exact Or.inl rfl | exact Or.inr rfl) (pe_op op_addU (pv 2) (pe_lst (pa_cons pe_str (pa_cons pe_str (pa_cons pe_str pa_nil))))))
    (pss_cons (ps_if (PW.pt (pw_or (pt_cmpR (op_neU hr.units) (pe_either (pe_bm PySem.F.plainAttrs_list PySem.F.slot_list_count PySem.F.type_list_count mt_count (pv 1) (pa_cons pe_bl pa_nil)) (pe_bp PySem.F.plainAttrs_tuple PySem.F.slot_tuple_count PySem.F.type_tuple_count mt_countT (pv 1) (pa_cons pe_bl pa_nil))) pe_int (nomark _)) (pw_or (pt_not (pt_truth (pe_callB call_isU (by rfl) T.n_isinstance (by decide +kernel) (pa_cons (pv 0) (pa_cons (pe_bltn (v := .ty "ValueError") (by rfl) T.n_ValueError (by decide +kernel) rfl) pa_nil))) (by intro _; rfl))) (pw_or1 (pt_truth (pe_callB call_isU (by rfl) T.n_isinstance (by decide +kernel) (pa_cons (pv 0) (pa_cons (pe_tupP (pa_cons (pe_glob (v := .ref Z.NoState) (by rfl) T.g_NoState rfl) (pa_cons (pe_glob (v := .ref Z.NoVersion) (by rfl) T.g_NoVersion rfl) pa_nil))) pa_nil))) (by intro _; rfl))))))
    (pss_one (ps_ret pe_str)) pss_nil)
    (pss_one (ps_ret (pe_ix ix_seq (pv 2) (pe_bm PySem.F.plainAttrs_list PySem.F.slot_list_index PySem.F.type_list_index mt_index (pv 1) (pa_cons pe_bl pa_nil)) (fun _ _ => rfl)))))))))))) (fun E xs out h => (rd_l_word_of K Z E) ▸ sd_run (Hy := HY Z) T.zf h)
theorem ok_l_titles (T : Txt K mg Z) : FnOk P w K mg base CX0 1 T.a_l_titles T.d_l_titles [] (spD K (RF (F_l_titles Z))) :=
  ok_def (t := t_l_titles K Z) T.F_l_titles sc_l_titles hl_run (fun cdv A outer s H E hr =>
    (pss_one (ps_ret (pe_lst (pa_cons pe_str (pa_cons pe_str (pa_cons pe_str (pa_cons pe_str (pa_cons pe_str (pa_cons pe_str (pa_cons pe_str (pa_cons pe_str pa_nil)))))))))))) (fun E xs out h => (rd_l_titles K Z E) ▸ sd_run (Hy := HY Z) T.zf h)
theorem ok_l_names (T : Txt K mg Z) : FnOk P w K mg base CX0 1 T.a_l_names T.d_l_names [] (spD K (RF (F_l_names Z))) :=
  ok_def (t := t_l_names K Z) T.F_l_names sc_l_names hl_run (fun cdv A outer s H E hr =>
    (pss_one (ps_ret (pe_lst (pa_cons pe_str (pa_cons pe_str (pa_cons pe_str (pa_cons pe_str (pa_cons pe_str (pa_cons pe_str pa_nil)))))))))) (fun E xs out h => (rd_l_names K Z E) ▸ sd_run (Hy := HY Z) T.zf h)
theorem ok_l_near_span (T : Txt K mg Z) : FnOk P w K mg base CX0 1 T.a_l_near_span T.d_l_near_span ["_law_cell_here"] (spD K (RF (F_l_near_span Z))) :=
  ok_def (t := t_l_near_span K Z) T.F_l_near_span sc_l_near_span hl_run (fun cdv A outer s H E hr =>
    (pss_cons (ps_set (i := 1) sc_l_near_span.nd rfl (by first | exact Or.inl rfl | exact Or.inr rfl) (pe_op op_sub (pe_op op_mod (pe_op op_fdivW (pv 0) pe_int) pe_int) pe_int))
    (pss_cons (ps_set (i := 2) sc_l_near_span.nd rfl (by first | exact Or.inl rfl | exact Or.inr rfl) (pe_op op_addU (pv 1) (pe_op op_mod (pe_op op_fdivW (pv 0) pe_int) pe_int)))
    (pss_cons (ps_set (i := 3) sc_l_near_span.nd rfl (by first | exact Or.inl rfl | exact Or.inr rfl) (pe_lst (pa_cons (pe_tupP (pa_cons (pv 1) (pa_cons (pv 2) pa_nil))) (pa_cons (pe_tupP (pa_cons (pv 1) (pa_cons (pv 2) pa_nil))) (pa_cons (pe_tupP (pa_cons pe_non (pa_cons (pv 2) pa_nil))) (pa_cons (pe_tupP (pa_cons (pv 1) (pa_cons pe_non pa_nil))) (pa_cons (pe_tupP (pa_cons pe_non (pa_cons pe_non pa_nil))) (pa_cons (pe_tupP (pa_cons (pv 1) (pa_cons (pv 1) pa_nil))) pa_nil))))))))
    (pss_one (ps_ret (pe_ix ix_seq (pe_op op_addU (pv 3) (pe_lst (pa_cons (pe_tupP (pa_cons (pv 1) (pa_cons (pv 2) pa_nil))) (pa_cons (pe_tupP (pa_cons pe_non (pa_cons (pv 2) pa_nil))) (pa_cons (pe_tupP (pa_cons (pv 1) (pa_cons pe_non pa_nil))) pa_nil))))) (pe_op op_mod (pv 0) pe_int) (fun _ _ => rfl)))))))) (fun E xs out h => (rd_l_near_span K Z E) ▸ sd_run (Hy := HY Z) T.zf h)
theorem okr_l_tree (T : Txt K mg Z) (F1 F2 : List D → M S) (n : Nat) (hF : F1 = runF (b_l_tree Z F2) 8 4) (FR : FnOk P w K mg base CX0 (n + 1) T.a_l_tree T.d_l_tree ["_law_script", "_law_base", "_law_node", "_law_deep"] (spD K (RF F2))) : FnOk P w K mg base CX0 (n + 2) T.a_l_tree T.d_l_tree ["_law_script", "_law_base", "_law_node", "_law_deep"] (spD K (RF F1)) := by
  subst hF
  exact ok_def (t := t_l_tree K Z F2) T.F_l_tree sc_l_tree hl_run (fun cdv A outer s H E hr =>
    (pss_cons (ps_set (i := 4) sc_l_tree.nd rfl (by first | exact Or.inl rfl | exact Or.inr rfl) (pe_call (ok_l_cell T) (hr.mono (by omega)) (by rfl) T.g_l_cell T.F_l_cell.kp T.b_l_cell .nil pass0 (pa_cons (pv 0) (pa_cons (pe_op op_addU (pv 1) (pv 2)) pa_nil))))
    (pss_cons (ps_set (i := 5) sc_l_tree.nd rfl (by first | exact Or.inl rfl | exact Or.inr rfl) (pe_op op_fdivW (pv 4) pe_int))
    (pss_cons (ps_set (i := 6) sc_l_tree.nd rfl (by first | exact Or.inl rfl | exact Or.inr rfl) (pe_ix ix_seq (pe_lst (pa_cons pe_int (pa_cons pe_int (pa_cons pe_int (pa_cons pe_int (pa_cons pe_int (pa_cons pe_int (pa_cons pe_int (pa_cons pe_int (pa_cons pe_int (pa_cons pe_int (pa_cons pe_int (pa_cons pe_int (pa_cons pe_int (pa_cons pe_int (pa_cons pe_int (pa_cons pe_int (pa_cons pe_int pa_nil)))))))))))))))))) (pe_op op_mod (pv 4) pe_int) (fun _ _ => rfl)))
    (pss_cons (ps_if (pt_cmpR (op_eqU hr.units) (pv 3) pe_int (nomark _))
    (pss_one (ps_set (i := 6) sc_l_tree.nd rfl (by first | exact Or.inl rfl | exact Or.inr rfl) (pe_op op_fdivW (pe_op op_mod (pv 6) pe_int) pe_int))) pss_nil)
    (pss_cons (ps_if (pt_cmpR (op_eqU hr.units) (pv 6) pe_int (nomark _))
    (pss_one (ps_ret (pe_tupP (pa_cons pe_str (pa_cons (pe_ix ix_seq (pe_call0 (ok_l_names T) (hr.mono (by omega)) (by rfl) T.g_l_names T.F_l_names.kp T.b_l_names .nil pass0) (pe_op op_mod (pv 5) pe_int) (fun _ _ => rfl)) pa_nil))))) pss_nil)
    (pss_cons (ps_if (pt_cmpR (op_eqU hr.units) (pv 6) pe_int (nomark _))
    (pss_one (ps_ret (pe_tupP (pa_cons pe_str (pa_cons (pe_ix ix_seq (pe_lst (pa_cons pe_non (pa_cons pe_non (pa_cons (pe_call (ok_l_value T) (hr.mono (by omega)) (by rfl) T.g_l_value T.F_l_value.kp T.b_l_value .nil pass0 (pa_cons (pv 5) pa_nil)) pa_nil)))) (pe_op op_mod (pv 5) pe_int) (fun _ _ => rfl)) pa_nil))))) pss_nil)
    (pss_cons (ps_set (i := 7) sc_l_tree.nd rfl (by first | exact Or.inl rfl | exact Or.inr rfl) (pe_call FR (hr.mono (by omega)) (by rfl) T.g_l_tree T.F_l_tree.kp T.b_l_tree .nil pass0 (pa_cons (pv 0) (pa_cons (pv 1) (pa_cons (pe_op op_mulU pe_int (pv 2)) (pa_cons (pe_op op_sub (pv 3) pe_int) pa_nil))))))
    (pss_cons (ps_if (pt_cmpR (op_eqU hr.units) (pv 6) pe_int (nomark _))
    (pss_one (ps_ret (pe_tupP (pa_cons pe_str (pa_cons (pv 7) (pa_cons (pe_call (ok_l_near_span T) (hr.mono (by omega)) (by rfl) T.g_l_near_span T.F_l_near_span.kp T.b_l_near_span .nil pass0 (pa_cons (pv 5) pa_nil)) pa_nil)))))) pss_nil)
    (pss_cons (ps_if (pt_cmpR (op_eqU hr.units) (pv 6) pe_int (nomark _))
    (pss_one (ps_ret (pe_tupP (pa_cons pe_str (pa_cons (pv 7) (pa_cons (pe_op op_sub (pe_op op_mod (pv 5) pe_int) pe_int) pa_nil)))))) pss_nil)
    (pss_cons (ps_if (pt_cmpR (op_eqU hr.units) (pv 6) pe_int (nomark _))
    (pss_one (ps_ret (pe_tupP (pa_cons pe_str (pa_cons (pv 7) (pa_cons (pe_op op_sub (pe_op op_mod (pv 5) pe_int) pe_int) pa_nil)))))) pss_nil)
    (pss_one (ps_ret (pe_tupP (pa_cons pe_str (pa_cons (pe_ix ix_seq (pe_call0 (ok_l_titles T) (hr.mono (by omega)) (by rfl) T.g_l_titles T.F_l_titles.kp T.b_l_titles .nil pass0) (pe_op op_mod (pv 5) pe_int) (fun _ _ => rfl)) (pa_cons (pv 7) (pa_cons (pe_call FR (hr.mono (by omega)) (by rfl) T.g_l_tree T.F_l_tree.kp T.b_l_tree .nil pass0 (pa_cons (pv 0) (pa_cons (pv 1) (pa_cons (pe_op op_addU (pe_op op_mulU pe_int (pv 2)) pe_int) (pa_cons (pe_op op_sub (pv 3) pe_int) pa_nil))))) pa_nil)))))))))))))))))) (fun E xs out h => (rd_l_tree K Z E F2) ▸ sd_run (Hy := HY Z) T.zf h)
theorem okn_l_tree (T : Txt K mg Z) : ∀ n : Nat, FnOk P w K mg base CX0 (n + 2) T.a_l_tree T.d_l_tree ["_law_script", "_law_base", "_law_node", "_law_deep"] (spD K (RF (Fn_l_tree Z n)))
  | 0 => okr_l_tree T _ _ 0 rfl fnok_no
  | n + 1 => okr_l_tree T _ _ (n + 1) rfl ((okn_l_tree T n).mono (by omega))
theorem ok_l_tree (T : Txt K mg Z) : FnOk P w K mg base CX0 8 T.a_l_tree T.d_l_tree ["_law_script", "_law_base", "_law_node", "_law_deep"] (spD K (RF (F_l_tree Z))) := okn_l_tree T 6
theorem okr_l_made (T : Txt K mg Z) (F1 F2 : List D → M S) (n : Nat) (hF : F1 = runF (b_l_made Z F2) 3 1) (FR : FnOk P w K mg base CX0 (n + 5) T.a_l_made T.d_l_made ["_law_told_tree"] (spD K (RF F2))) : FnOk P w K mg base CX0 (n + 6) T.a_l_made T.d_l_made ["_law_told_tree"] (spD K (RF F1)) := by
  subst hF
  exact ok_def (t := t_l_made K Z F2) T.F_l_made sc_l_made hl_run (fun cdv A outer s H E hr =>
    (pss_cons (ps_set (i := 1) sc_l_made.nd rfl (by first | exact Or.inl rfl | exact Or.inr rfl) (pe_ix ix_seq (pv 0) pe_int (fun _ _ => rfl)))
    (pss_cons (ps_if (pt_cmpR (op_eqU hr.units) (pv 1) pe_str (nomark _))
    (pss_one (ps_ret (pe_makeS T.mk_Named (ok_Named_init T) (hr.mono (by omega)) (by rfl) T.g_Named T.b_Named_init (fun _ => passC) (pa_cons (pe_ix ix_seq (pv 0) pe_int (fun _ _ => rfl)) pa_nil)))) pss_nil)
    (pss_cons (ps_if (pt_cmpR (op_eqU hr.units) (pv 1) pe_str (nomark _))
    (pss_one (ps_ret (pe_makeS T.mk_Flat (ok_Flat_init T) (hr.mono (by omega)) (by rfl) T.g_Flat T.b_Flat_init (fun _ => passC) (pa_cons (pe_ix ix_seq (pv 0) pe_int (fun _ _ => rfl)) pa_nil)))) pss_nil)
    (pss_cons (ps_if (pt_cmpR (op_eqU hr.units) (pv 1) pe_str (nomark _))
    (pss_one (ps_ret (pe_makeS T.mk_Joint (ok_Joint_init T) (hr.mono (by omega)) (by rfl) T.g_Joint T.b_Joint_init (fun _ => passC) (pa_cons (pe_ix ix_seq (pv 0) pe_int (fun _ _ => rfl)) (pa_cons (pe_call FR (hr.mono (by omega)) (by rfl) T.g_l_made T.F_l_made.kp T.b_l_made .nil pass0 (pa_cons (pe_ix ix_seq (pv 0) pe_int (fun _ _ => rfl)) pa_nil)) (pa_cons (pe_call FR (hr.mono (by omega)) (by rfl) T.g_l_made T.F_l_made.kp T.b_l_made .nil pass0 (pa_cons (pe_ix ix_seq (pv 0) pe_int (fun _ _ => rfl)) pa_nil)) pa_nil)))))) pss_nil)
    (pss_cons (ps_set (i := 2) sc_l_made.nd rfl (by first | exact Or.inl rfl | exact Or.inr rfl) (pe_call FR (hr.mono (by omega)) (by rfl) T.g_l_made T.F_l_made.kp T.b_l_made .nil pass0 (pa_cons (pe_ix ix_seq (pv 0) pe_int (fun _ _ => rfl)) pa_nil)))
    (pss_cons (ps_if (pt_cmpR (op_eqU hr.units) (pv 1) pe_str (nomark _))
    (pss_one (ps_ret (pe_makeS T.mk_Only (ok_Only_init T) (hr.mono (by omega)) (by rfl) T.g_Only T.b_Only_init (fun _ => passC) (pa_cons (pv 2) (pa_cons (pe_ix ix_seq (pv 0) pe_int (fun _ _ => rfl)) pa_nil))))) pss_nil)
    (pss_cons (ps_if (pt_cmpR (op_eqU hr.units) (pv 1) pe_str (nomark _))
    (pss_one (ps_ret (pe_makeS T.mk_Shifted (ok_Shifted_init T) (hr.mono (by omega)) (by rfl) T.g_Shifted T.b_Shifted_init (fun _ => passC) (pa_cons (pv 2) (pa_cons (pe_ix ix_seq (pv 0) pe_int (fun _ _ => rfl)) pa_nil))))) pss_nil)
    (pss_one (ps_ret (pe_makeS T.mk_Flipped (ok_Flipped_init T) (hr.mono (by omega)) (by rfl) T.g_Flipped T.b_Flipped_init (fun _ => passC) (pa_cons (pv 2) (pa_cons (pe_ix ix_seq (pv 0) pe_int (fun _ _ => rfl)) pa_nil))))))))))))) (fun E xs out h => (rd_l_made K Z E F2) ▸ sd_run (Hy := HY Z) T.zf h)
theorem okn_l_made (T : Txt K mg Z) : ∀ n : Nat, FnOk P w K mg base CX0 (n + 6) T.a_l_made T.d_l_made ["_law_told_tree"] (spD K (RF (Fn_l_made Z n)))
  | 0 => okr_l_made T _ _ 0 rfl fnok_no
  | n + 1 => okr_l_made T _ _ (n + 1) rfl ((okn_l_made T n).mono (by omega))
theorem ok_l_made (T : Txt K mg Z) : FnOk P w K mg base CX0 19 T.a_l_made T.d_l_made ["_law_told_tree"] (spD K (RF (F_l_made Z))) := okn_l_made T 13
theorem okr_l_kinds (T : Txt K mg Z) (F1 F2 : List D → M S) (n : Nat) (hF : F1 = runF (b_l_kinds Z F2) 4 1) (FR : FnOk P w K mg base CX0 (n + 0) T.a_l_kinds T.d_l_kinds ["_law_tree_here"] (spD K (RF F2))) : FnOk P w K mg base CX0 (n + 1) T.a_l_kinds T.d_l_kinds ["_law_tree_here"] (spD K (RF F1)) := by
  subst hF
  exact ok_def (t := t_l_kinds K Z F2) T.F_l_kinds sc_l_kinds hl_run (fun cdv A outer s H E hr =>
    (pss_cons (ps_if (pt_cmpR op_inU (pe_ix ix_seq (pv 0) pe_int (fun _ _ => rfl)) (pe_lst (pa_cons pe_str (pa_cons pe_str pa_nil))) (by rfl))
    (pss_one (ps_ret (pe_lst (pa_cons (pe_ix ix_seq (pv 0) pe_int (fun _ _ => rfl)) pa_nil)))) pss_nil)
    (pss_cons (ps_setLc (i := 1) (own := [("_law_limb", 2)]) (by rfl) sc_l_kinds.nd rfl rfl (sw_true rfl rfl rfl (by decide +kernel)) (pi_seq (pe_slice sl_U (pv 0) (po_some pe_int) po_none)) (blkOk_by (own := [("_law_limb", 2)]) (N := N_l_kinds) (sc := defScope s_l_kinds) (by decide +kernel)) (fun _ _ _ _ _ => (pg_name (i := 2) sc_l_kinds.nd rfl (by first | exact Or.inl rfl | exact Or.inr rfl))) (fun _ _ _ _ _ => (pts_one (PW.pt (pw_and (pt_truth (pe_callB call_isU (by rfl) T.n_isinstance (by decide +kernel) (pa_cons (pv 2) (pa_cons (pe_bltn (v := .ty "tuple") (by rfl) T.n_tuple (by decide +kernel) rfl) pa_nil))) (by intro _; rfl)) (pw_and (pt_cmpR op_gt (pe_callB call_len (by rfl) T.n_len (by decide +kernel) (pa_cons (pv 2) pa_nil)) pe_int (nomark _)) (pw_and1 (pt_truth (pe_callB call_isU (by rfl) T.n_isinstance (by decide +kernel) (pa_cons (pe_ix ix_seq (pv 2) pe_int (fun _ _ => rfl)) (pa_cons (pe_bltn (v := .ty "str") (by rfl) T.n_str (by decide +kernel) rfl) pa_nil))) (by intro _; rfl)))))))) (fun _ _ _ _ _ => (pv 2)))
    (pss_cons (ps_set (i := 3) sc_l_kinds.nd rfl (by first | exact Or.inl rfl | exact Or.inr rfl) (pe_lst (pa_cons (pe_ix ix_seq (pv 0) pe_int (fun _ _ => rfl)) pa_nil)))
    (pss_cons (ps_for PassesOwn.never rfl (pi_seq (pv 1)) (pg_name (i := 2) sc_l_kinds.nd rfl (by first | exact Or.inl rfl | exact Or.inr rfl))
    (pss_one (ps_set (i := 3) sc_l_kinds.nd rfl (by first | exact Or.inl rfl | exact Or.inr rfl) (pe_op op_addU (pv 3) (pe_call FR (hr.mono (by omega)) (by rfl) T.g_l_kinds T.F_l_kinds.kp T.b_l_kinds .nil pass0 (pa_cons (pv 2) pa_nil))))))
    (pss_one (ps_ret (pv 3)))))))) (fun E xs out h => (rd_l_kinds K Z E F2) ▸ sd_run (Hy := HY Z) T.zf h)
theorem okn_l_kinds (T : Txt K mg Z) : ∀ n : Nat, FnOk P w K mg base CX0 (n + 1) T.a_l_kinds T.d_l_kinds ["_law_tree_here"] (spD K (RF (Fn_l_kinds Z n)))
  | 0 => okr_l_kinds T _ _ 0 rfl fnok_no
  | n + 1 => okr_l_kinds T _ _ (n + 1) rfl ((okn_l_kinds T n).mono (by omega))
theorem ok_l_kinds (T : Txt K mg Z) : FnOk P w K mg base CX0 14 T.a_l_kinds T.d_l_kinds ["_law_tree_here"] (spD K (RF (F_l_kinds Z))) := okn_l_kinds T 13
theorem okr_l_names_of (T : Txt K mg Z) (F1 F2 : List D → M S) (n : Nat) (hF : F1 = runF (b_l_names_of Z F2) 3 1) (FR : FnOk P w K mg base CX0 (n + 0) T.a_l_names_of T.d_l_names_of ["_law_tree_here"] (spD K (RF F2))) : FnOk P w K mg base CX0 (n + 1) T.a_l_names_of T.d_l_names_of ["_law_tree_here"] (spD K (RF F1)) := by
  subst hF
  exact ok_def (t := t_l_names_of K Z F2) T.F_l_names_of sc_l_names_of hl_run (fun cdv A outer s H E hr =>
    (pss_cons (ps_if (pt_cmpR (op_eqU hr.units) (pe_ix ix_seq (pv 0) pe_int (fun _ _ => rfl)) pe_str (nomark _))
    (pss_one (ps_ret (pe_lst (pa_cons (pe_ix ix_seq (pv 0) pe_int (fun _ _ => rfl)) pa_nil)))) pss_nil)
    (pss_cons (ps_set (i := 1) sc_l_names_of.nd rfl (by first | exact Or.inl rfl | exact Or.inr rfl) (pe_lst pa_nil))
    (pss_cons (ps_for PassesOwn.never rfl (pi_seq (pe_slice sl_U (pv 0) (po_some pe_int) po_none)) (pg_name (i := 2) sc_l_names_of.nd rfl (by first | exact Or.inl rfl | exact Or.inr rfl))
    (pss_one (ps_if (PW.pt (pw_and (pt_truth (pe_callB call_isU (by rfl) T.n_isinstance (by decide +kernel) (pa_cons (pv 2) (pa_cons (pe_bltn (v := .ty "tuple") (by rfl) T.n_tuple (by decide +kernel) rfl) pa_nil))) (by intro _; rfl)) (pw_and (pt_cmpR op_gt (pe_callB call_len (by rfl) T.n_len (by decide +kernel) (pa_cons (pv 2) pa_nil)) pe_int (nomark _)) (pw_and1 (pt_truth (pe_callB call_isU (by rfl) T.n_isinstance (by decide +kernel) (pa_cons (pe_ix ix_seq (pv 2) pe_int (fun _ _ => rfl)) (pa_cons (pe_bltn (v := .ty "str") (by rfl) T.n_str (by decide +kernel) rfl) pa_nil))) (by intro _; rfl))))))
    (pss_one (ps_set (i := 1) sc_l_names_of.nd rfl (by first | exact Or.inl rfl | exact Or.inr rfl) (pe_op op_addU (pv 1) (pe_call FR (hr.mono (by omega)) (by rfl) T.g_l_names_of T.F_l_names_of.kp T.b_l_names_of .nil pass0 (pa_cons (pv 2) pa_nil))))) pss_nil)))
    (pss_one (ps_ret (pv 1))))))) (fun E xs out h => (rd_l_names_of K Z E F2) ▸ sd_run (Hy := HY Z) T.zf h)
theorem okn_l_names_of (T : Txt K mg Z) : ∀ n : Nat, FnOk P w K mg base CX0 (n + 1) T.a_l_names_of T.d_l_names_of ["_law_tree_here"] (spD K (RF (Fn_l_names_of Z n)))
  | 0 => okr_l_names_of T _ _ 0 rfl fnok_no
  | n + 1 => okr_l_names_of T _ _ (n + 1) rfl ((okn_l_names_of T n).mono (by omega))
theorem ok_l_names_of (T : Txt K mg Z) : FnOk P w K mg base CX0 14 T.a_l_names_of T.d_l_names_of ["_law_tree_here"] (spD K (RF (F_l_names_of Z))) := okn_l_names_of T 13
theorem okr_l_fields_right (T : Txt K mg Z) (F1 F2 : List D → M S) (n : Nat) (hF : F1 = runF (b_l_fields_right Z F2) 4 2) (FR : FnOk P w K mg base CX0 (n + 0) T.a_l_fields_right T.d_l_fields_right ["_law_tree_here", "_law_due"] (spD K (RF F2))) : FnOk P w K mg base CX0 (n + 1) T.a_l_fields_right T.d_l_fields_right ["_law_tree_here", "_law_due"] (spD K (RF F1)) := by
  subst hF
  exact ok_def (t := t_l_fields_right K Z F2) T.F_l_fields_right sc_l_fields_right hl_run (fun cdv A outer s H E hr =>
    (pss_cons (ps_set (i := 2) sc_l_fields_right.nd rfl (by first | exact Or.inl rfl | exact Or.inr rfl) (pe_ix ix_seq (pv 1) pe_int (fun _ _ => rfl)))
    (pss_cons (ps_if (pt_cmpR (op_eqU hr.units) (pv 2) pe_str (nomark _))
    (pss_one (ps_ret (pe_cmpR (op_eqU hr.units) (pe_fld (pv 0) rfl) (pe_ix ix_seq (pv 1) pe_int (fun _ _ => rfl)) (nomark _)))) pss_nil)
    (pss_cons (ps_if (pt_cmpR (op_eqU hr.units) (pv 2) pe_str (nomark _))
    (pss_one (ps_ret (pe_andT (pe_cmpR (op_eqU hr.units) (pe_fld (pv 0) rfl) (pe_ix ix_seq (pv 1) pe_int (fun _ _ => rfl)) (nomark _)) (pe_one (pe_cmpR (op_eqU hr.units) (pe_cmpR op_isN1 (pe_fld (pv 0) rfl) pe_non (nomark _)) (pe_cmpR op_isN1 (pe_ix ix_seq (pv 1) pe_int (fun _ _ => rfl)) pe_non (nomark _)) (nomark _)))))) pss_nil)
    (pss_cons (ps_if (pt_cmpR (op_eqU hr.units) (pv 2) pe_str (nomark _))
    (pss_cons (ps_set (i := 3) sc_l_fields_right.nd rfl (by first | exact Or.inl rfl | exact Or.inr rfl) (pe_andT (pe_cmpR (op_eqU hr.units) (pe_fld (pv 0) rfl) (pe_ix ix_seq (pv 1) pe_int (fun _ _ => rfl)) (nomark _)) (pe_one (pe_call FR (hr.mono (by omega)) (by rfl) T.g_l_fields_right T.F_l_fields_right.kp T.b_l_fields_right .nil pass0 (pa_cons (pe_fld (pv 0) rfl) (pa_cons (pe_ix ix_seq (pv 1) pe_int (fun _ _ => rfl)) pa_nil))))))
    (pss_one (ps_ret (pe_andT (pv 3) (pe_one (pe_call FR (hr.mono (by omega)) (by rfl) T.g_l_fields_right T.F_l_fields_right.kp T.b_l_fields_right .nil pass0 (pa_cons (pe_fld (pv 0) rfl) (pa_cons (pe_ix ix_seq (pv 1) pe_int (fun _ _ => rfl)) pa_nil)))))))) pss_nil)
    (pss_cons (ps_if (PW.pt (pw_or (PW.pt (pw_and (pt_cmpR (op_eqU hr.units) (pv 2) pe_str (nomark _)) (pw_and1 (pt_cmpR (op_neU hr.units) (pe_fld (pv 0) rfl) (pe_ix ix_seq (pv 1) pe_int (fun _ _ => rfl)) (nomark _))))) (pw_or1 (PW.pt (pw_and (pt_cmpR (op_eqU hr.units) (pv 2) pe_str (nomark _)) (pw_and1 (pt_cmpR (op_neU hr.units) (pe_fld (pv 0) rfl) (pe_ix ix_seq (pv 1) pe_int (fun _ _ => rfl)) (nomark _))))))))
    (pss_one (ps_ret pe_bl)) pss_nil)
    (pss_cons (ps_if (PW.pt (pw_and (pt_cmpR (op_eqU hr.units) (pv 2) pe_str (nomark _)) (pw_and1 (pt_cmpR (op_neU hr.units) (pe_fld (pv 0) rfl) (pe_ix ix_seq (pv 1) pe_int (fun _ _ => rfl)) (nomark _)))))
    (pss_one (ps_ret pe_bl)) pss_nil)
    (pss_one (ps_ret (pe_call FR (hr.mono (by omega)) (by rfl) T.g_l_fields_right T.F_l_fields_right.kp T.b_l_fields_right .nil pass0 (pa_cons (pe_fld (pv 0) rfl) (pa_cons (pe_ix ix_seq (pv 1) pe_int (fun _ _ => rfl)) pa_nil)))))))))))) (fun E xs out h => (rd_l_fields_right K Z E F2) ▸ sd_run (Hy := HY Z) T.zf h)
theorem okn_l_fields_right (T : Txt K mg Z) : ∀ n : Nat, FnOk P w K mg base CX0 (n + 1) T.a_l_fields_right T.d_l_fields_right ["_law_tree_here", "_law_due"] (spD K (RF (Fn_l_fields_right Z n)))
  | 0 => okr_l_fields_right T _ _ 0 rfl fnok_no
  | n + 1 => okr_l_fields_right T _ _ (n + 1) rfl ((okn_l_fields_right T n).mono (by omega))
theorem ok_l_fields_right (T : Txt K mg Z) : FnOk P w K mg base CX0 14 T.a_l_fields_right T.d_l_fields_right ["_law_tree_here", "_law_due"] (spD K (RF (F_l_fields_right Z))) := okn_l_fields_right T 13
theorem ok_l_odd_name (T : Txt K mg Z) : FnOk P w K mg base CX0 1 T.a_l_odd_name T.d_l_odd_name ["_law_cell_here"] (spD K (RF (F_l_odd_name Z))) :=
  ok_def (t := t_l_odd_name K Z) T.F_l_odd_name sc_l_odd_name hl_run (fun cdv A outer s H E hr =>
    (pss_cons (ps_set (i := 1) sc_l_odd_name.nd rfl (by first | exact Or.inl rfl | exact Or.inr rfl) (pe_lst (pa_cons pe_str (pa_cons pe_str (pa_cons pe_str (pa_cons pe_str (pa_cons pe_str (pa_cons pe_non (pa_cons pe_int (pa_cons (pe_lst (pa_cons pe_str pa_nil)) (pa_cons pe_str (pa_cons pe_str (pa_cons pe_str (pa_cons pe_str (pa_cons pe_str (pa_cons pe_str pa_nil))))))))))))))))
    (pss_cons (ps_set (i := 1) sc_l_odd_name.nd rfl (by first | exact Or.inl rfl | exact Or.inr rfl) (pe_op op_addU (pv 1) (pe_lst (pa_cons pe_str (pa_cons pe_str (pa_cons pe_str (pa_cons pe_str (pa_cons pe_str (pa_cons pe_str (pa_cons pe_str (pa_cons pe_str (pa_cons (pe_tupP (pa_cons pe_str pa_nil)) (pa_cons pe_bl pa_nil)))))))))))))
    (pss_one (ps_ret (pe_ix ix_seq (pv 1) (pe_op op_mod (pv 0) pe_int) (fun _ _ => rfl))))))) (fun E xs out h => (rd_l_odd_name K Z E) ▸ sd_run (Hy := HY Z) T.zf h)
theorem ok_l_is_name (T : Txt K mg Z) : FnOk P w K mg base CX0 2 T.a_l_is_name T.d_l_is_name ["_law_thing"] (spD K (RF (F_l_is_name Z))) :=
  ok_def (t := t_l_is_name K Z) T.F_l_is_name sc_l_is_name hl_run (fun cdv A outer s H E hr =>
    (pss_cons (ps_if (PW.pt (pw_or (pt_not (pt_truth (pe_callB call_isU (by rfl) T.n_isinstance (by decide +kernel) (pa_cons (pv 0) (pa_cons (pe_bltn (v := .ty "str") (by rfl) T.n_str (by decide +kernel) rfl) pa_nil))) (by intro _; rfl))) (pw_or (pt_not (pt_chain op_le op_le pe_int (pe_callB call_len (by rfl) T.n_len (by decide +kernel) (pa_cons (pv 0) pa_nil)) pe_int)) (pw_or1 (pt_cmpR op_inU (pv 0) (pe_call0 (ok_l_titles T) (hr.mono (by omega)) (by rfl) T.g_l_titles T.F_l_titles.kp T.b_l_titles .nil pass0) (by rfl))))))
    (pss_one (ps_ret pe_bl)) pss_nil)
    (pss_cons (ps_if (pt_cmpR op_inU (pv 0) (pe_lst (pa_cons pe_str (pa_cons pe_str (pa_cons pe_str (pa_cons pe_str pa_nil))))) (by rfl))
    (pss_one (ps_ret pe_bl)) pss_nil)
    (pss_one (ps_ret (pe_cmpR (op_eqU hr.units) (pe_lc (own := [("_law_sign", 1)]) (by rfl) sc_l_is_name.nd (pi_str (pv 0)) (blkOk_by (own := [("_law_sign", 1)]) (N := N_l_is_name) (sc := defScope s_l_is_name) (by decide +kernel)) (fun _ _ _ _ _ => (pg_name (i := 1) sc_l_is_name.nd rfl (by first | exact Or.inl rfl | exact Or.inr rfl))) (fun _ _ _ _ _ => (pts_one (pt_cmpR op_notInU (pv 1) pe_str (by rfl)))) (fun _ _ _ _ _ => (pv 1))) (pe_lst pa_nil) (nomark _))))))) (fun E xs out h => (rd_l_is_name K Z E) ▸ sd_run (Hy := HY Z) T.zf h)
theorem ok_l_wrong (T : Txt K mg Z) : FnOk P w K mg base (L2.CX P w) 6 T.a_l_wrong T.d_l_wrong ["_law_cell_here"] (spD K (RF (F_l_wrong Z))) :=
  ok_defX (t := t_l_wrong K Z) T.F_l_wrong sc_l_wrong hl_run (fun cdv A outer s H E hr =>
    (pss_cons (ps_set (i := 1) sc_l_wrong.nd rfl (by first | exact Or.inl rfl | exact Or.inr rfl) (pe_makeS T.mk_Flat (ok_Flat_init T) (hr.mono (by omega)) (by rfl) T.g_Flat T.b_Flat_init (fun σ => passAt (takes_of rfl rfl rfl rfl) σ) (pa_cons pe_int pa_nil)))
    (pss_cons (ps_set (i := 2) sc_l_wrong.nd rfl (by first | exact Or.inl rfl | exact Or.inr rfl) (pe_ix ix_seq (pe_lst (pa_cons pe_non (pa_cons pe_str (pa_cons pe_int (pa_cons (pe_tupP (pa_cons pe_str (pa_cons pe_int pa_nil))) (pa_cons (pe_lst (pa_cons pe_str pa_nil)) (pa_cons pe_dnewK (pa_cons pe_bl pa_nil)))))))) (pe_op op_mod (pe_op op_fdivW (pv 0) pe_int) pe_int) (fun _ _ => rfl)))
    (pss_cons (ps_set (i := 3) sc_l_wrong.nd rfl (by first | exact Or.inl rfl | exact Or.inr rfl) (pe_ix ix_seq (pe_lst (pa_cons (pe_tupP (pa_cons pe_int (pa_cons pe_int pa_nil))) (pa_cons (pe_tupP (pa_cons pe_int pa_nil)) (pa_cons (pe_lst (pa_cons pe_int (pa_cons pe_int pa_nil))) (pa_cons pe_non (pa_cons pe_str (pa_cons (pe_tupP (pa_cons pe_bl (pa_cons pe_int pa_nil))) (pa_cons pe_int pa_nil)))))))) (pe_op op_mod (pe_op op_fdivW (pv 0) pe_int) pe_int) (fun _ _ => rfl)))
    (pss_cons (ps_set (i := 4) sc_l_wrong.nd rfl (by first | exact Or.inl rfl | exact Or.inr rfl) (pe_ix ix_seq (pe_lst (pa_cons pe_non (pa_cons pe_bl (pa_cons pe_str (pa_cons (pe_tupP (pa_cons pe_int pa_nil)) (pa_cons (pe_lst (pa_cons pe_int pa_nil)) pa_nil)))))) (pe_op op_mod (pe_op op_fdivW (pv 0) pe_int) pe_int) (fun _ _ => rfl)))
    (pss_cons (ps_set (i := 5) sc_l_wrong.nd rfl (by first | exact Or.inl rfl | exact Or.inr rfl) (pe_ix ix_seq (pe_lst (pa_cons pe_str (pa_cons pe_str (pa_cons pe_str (pa_cons pe_non (pa_cons pe_int (pa_cons pe_str (pa_cons pe_str (pa_cons (pe_lst (pa_cons pe_str pa_nil)) pa_nil))))))))) (pe_op op_mod (pe_op op_fdivW (pv 0) pe_int) pe_int) (fun _ _ => rfl)))
    (pss_one (ps_if (pt_cmpR (op_eqU hr.units) (pe_op op_mod (pv 0) pe_int) pe_int (nomark _))
    (pss_one (ps_expr (pe_makeS T.mk_Named (ok_Named_init T) (hr.mono (by omega)) (by rfl) T.g_Named T.b_Named_init (fun σ => passAt (takes_of rfl rfl rfl rfl) σ) (pa_cons (pe_call (ok_l_odd_name T) (hr.mono (by omega)) (by rfl) T.g_l_odd_name T.F_l_odd_name.kp T.b_l_odd_name .nil pass0 (pa_cons (pe_op op_fdivW (pv 0) pe_int) pa_nil)) pa_nil)))) (pss_one (ps_if (pt_cmpR (op_eqU hr.units) (pe_op op_mod (pv 0) pe_int) pe_int (nomark _))
    (pss_one (ps_expr (pe_makeS T.mk_Flat (ok_Flat_init T) (hr.mono (by omega)) (by rfl) T.g_Flat T.b_Flat_init (fun σ => passAt (takes_of rfl rfl rfl rfl) σ) (pa_cons (pe_ix ix_seq (pe_lst (pa_cons pe_bl (pa_cons pe_str (pa_cons (pe_tupP (pa_cons pe_int pa_nil)) (pa_cons (pe_lst (pa_cons pe_non pa_nil)) (pa_cons pe_bl pa_nil)))))) (pe_op op_mod (pe_op op_fdivW (pv 0) pe_int) pe_int) (fun _ _ => rfl)) pa_nil)))) (pss_one (ps_if (pt_cmpR (op_eqU hr.units) (pe_op op_mod (pv 0) pe_int) pe_int (nomark _))
    (pss_one (ps_expr (pe_makeS T.mk_Only (ok_Only_init T) (hr.mono (by omega)) (by rfl) T.g_Only T.b_Only_init (fun σ => passAt (takes_of rfl rfl rfl rfl) σ) (pa_cons (pv 2) (pa_cons (pe_tupP (pa_cons pe_int (pa_cons pe_int pa_nil))) pa_nil))))) (pss_one (ps_if (pt_cmpR (op_eqU hr.units) (pe_op op_mod (pv 0) pe_int) pe_int (nomark _))
    (pss_one (ps_expr (pe_makeS T.mk_Only (ok_Only_init T) (hr.mono (by omega)) (by rfl) T.g_Only T.b_Only_init (fun σ => passAt (takes_of rfl rfl rfl rfl) σ) (pa_cons (pv 1) (pa_cons (pv 3) pa_nil))))) (pss_one (ps_if (pt_cmpR (op_eqU hr.units) (pe_op op_mod (pv 0) pe_int) pe_int (nomark _))
    (pss_one (ps_expr (pe_makeS T.mk_Shifted (ok_Shifted_init T) (hr.mono (by omega)) (by rfl) T.g_Shifted T.b_Shifted_init (fun σ => passAt (takes_of rfl rfl rfl rfl) σ) (pa_cons (pe_ix ix_seq (pe_lst (pa_cons (pv 2) (pa_cons (pv 1) pa_nil))) (pe_op op_mod (pe_op op_fdivW (pv 0) pe_int) pe_int) (fun _ _ => rfl)) (pa_cons (pv 4) pa_nil))))) (pss_one (ps_if (pt_cmpR (op_eqU hr.units) (pe_op op_mod (pv 0) pe_int) pe_int (nomark _))
    (pss_one (ps_expr (pe_makeS T.mk_Flipped (ok_Flipped_init T) (hr.mono (by omega)) (by rfl) T.g_Flipped T.b_Flipped_init (fun σ => passAt (takes_of rfl rfl rfl rfl) σ) (pa_cons (pe_ix ix_seq (pe_lst (pa_cons (pv 2) (pa_cons (pv 1) pa_nil))) (pe_op op_mod (pe_op op_fdivW (pv 0) pe_int) pe_int) (fun _ _ => rfl)) (pa_cons (pv 4) pa_nil))))) (pss_one (ps_if (pt_cmpR (op_eqU hr.units) (pe_op op_mod (pv 0) pe_int) pe_int (nomark _))
    (pss_one (ps_expr (pe_makeS T.mk_Joint (ok_Joint_init T) (hr.mono (by omega)) (by rfl) T.g_Joint T.b_Joint_init (fun σ => passAt (takes_of rfl rfl rfl rfl) σ) (pa_cons (pv 5) (pa_cons (pv 1) (pa_cons (pv 1) pa_nil)))))) (pss_one (ps_if (pt_cmpR (op_eqU hr.units) (pe_op op_mod (pv 0) pe_int) pe_int (nomark _))
    (pss_one (ps_expr (pe_makeS T.mk_Joint (ok_Joint_init T) (hr.mono (by omega)) (by rfl) T.g_Joint T.b_Joint_init (fun σ => passAt (takes_of rfl rfl rfl rfl) σ) (pa_cons pe_str (pa_cons (pv 2) (pa_cons (pv 1) pa_nil)))))) (pss_one (ps_expr (pe_makeS T.mk_Joint (ok_Joint_init T) (hr.mono (by omega)) (by rfl) T.g_Joint T.b_Joint_init (fun σ => passAt (takes_of rfl rfl rfl rfl) σ) (pa_cons pe_str (pa_cons (pv 1) (pa_cons (pv 2) pa_nil)))))))))))))))))))))))))))) (fun E xs out h => (rd_l_wrong K Z E) ▸ sd_run (Hy := HY Z) T.zf h)
theorem ok_l_deep_tree (T : Txt K mg Z) : FnOk P w K mg base CX0 9 T.a_l_deep_tree T.d_l_deep_tree ["_law_script", "_law_base"] (spD K (RF (F_l_deep_tree Z))) :=
  ok_def (t := t_l_deep_tree K Z) T.F_l_deep_tree sc_l_deep_tree hl_run (fun cdv A outer s H E hr =>
    (pss_cons (ps_set (i := 2) sc_l_deep_tree.nd rfl (by first | exact Or.inl rfl | exact Or.inr rfl) (pe_call (ok_l_tree T) (hr.mono (by omega)) (by rfl) T.g_l_tree T.F_l_tree.kp T.b_l_tree .nil pass0 (pa_cons (pv 0) (pa_cons (pv 1) (pa_cons pe_int (pa_cons pe_int pa_nil))))))
    (pss_cons (ps_for PassesOwn.never rfl (pi_rangeW1 rfl T.n_range (pa_cons (pe_op op_addU pe_int (pe_op op_mod (pe_call (ok_l_cell T) (hr.mono (by omega)) (by rfl) T.g_l_cell T.F_l_cell.kp T.b_l_cell .nil pass0 (pa_cons (pv 0) (pa_cons (pe_op op_addU (pv 1) pe_int) pa_nil))) pe_int)) pa_nil)) (pg_name (i := 3) sc_l_deep_tree.nd rfl (by first | exact Or.inl rfl | exact Or.inr rfl))
    (pss_cons (ps_set (i := 4) sc_l_deep_tree.nd rfl (by first | exact Or.inl rfl | exact Or.inr rfl) (pe_call (ok_l_cell T) (hr.mono (by omega)) (by rfl) T.g_l_cell T.F_l_cell.kp T.b_l_cell .nil pass0 (pa_cons (pv 0) (pa_cons (pe_op op_addU (pe_op op_addU (pv 1) pe_int) (pv 3)) pa_nil))))
    (pss_cons (ps_set (i := 5) sc_l_deep_tree.nd rfl (by first | exact Or.inl rfl | exact Or.inr rfl) (pe_call (ok_l_tree T) (hr.mono (by omega)) (by rfl) T.g_l_tree T.F_l_tree.kp T.b_l_tree .nil pass0 (pa_cons (pv 0) (pa_cons (pe_op op_addU (pe_op op_addU (pv 1) pe_int) (pe_op op_mulU pe_int (pv 3))) (pa_cons pe_int (pa_cons (pe_callB (call_min2 rfl) (by rfl) T.n_min (by decide +kernel) (pa_cons (pv 3) (pa_cons pe_int pa_nil))) pa_nil))))))
    (pss_cons (ps_set (i := 6) sc_l_deep_tree.nd rfl (by first | exact Or.inl rfl | exact Or.inr rfl) (pe_op op_sub (pe_op op_mod (pe_op op_fdivW (pv 4) pe_int) pe_int) pe_int))
    (pss_cons (ps_set (i := 7) sc_l_deep_tree.nd rfl (by first | exact Or.inl rfl | exact Or.inr rfl) (pe_lst (pa_cons (pe_tupP (pa_cons pe_str (pa_cons (pv 2) (pa_cons (pe_call (ok_l_near_span T) (hr.mono (by omega)) (by rfl) T.g_l_near_span T.F_l_near_span.kp T.b_l_near_span .nil pass0 (pa_cons (pe_op op_fdivW (pv 4) pe_int) pa_nil)) pa_nil)))) (pa_cons (pe_tupP (pa_cons pe_str (pa_cons (pv 2) (pa_cons (pv 6) pa_nil)))) (pa_cons (pe_tupP (pa_cons pe_str (pa_cons (pv 2) (pa_cons (pv 6) pa_nil)))) pa_nil)))))
    (pss_cons (ps_set (i := 8) sc_l_deep_tree.nd rfl (by first | exact Or.inl rfl | exact Or.inr rfl) (pe_ix ix_seq (pe_call0 (ok_l_titles T) (hr.mono (by omega)) (by rfl) T.g_l_titles T.F_l_titles.kp T.b_l_titles .nil pass0) (pe_op op_mod (pe_op op_fdivW (pv 4) pe_int) pe_int) (fun _ _ => rfl)))
    (pss_one (ps_set (i := 2) sc_l_deep_tree.nd rfl (by first | exact Or.inl rfl | exact Or.inr rfl) (pe_ix ix_seq (pe_op op_addU (pv 7) (pe_lst (pa_cons (pe_tupP (pa_cons pe_str (pa_cons (pv 8) (pa_cons (pv 2) (pa_cons (pv 5) pa_nil))))) (pa_cons (pe_tupP (pa_cons pe_str (pa_cons (pv 8) (pa_cons (pv 5) (pa_cons (pv 2) pa_nil))))) pa_nil)))) (pe_op op_mod (pv 4) pe_int) (fun _ _ => rfl))))))))))
    (pss_one (ps_ret (pv 2)))))) (fun E xs out h => (rd_l_deep_tree K Z E) ▸ sd_run (Hy := HY Z) T.zf h)
theorem ok_l_twice_right (T : Txt K mg Z) : FnOk P w K mg base CX0 17 T.a_l_twice_right T.d_l_twice_right ["_law_tree_here", "_law_due"] (spD K (RF (F_l_twice_right Z))) :=
  ok_def (t := t_l_twice_right K Z) T.F_l_twice_right sc_l_twice_right hl_run (fun cdv A outer s H E hr =>
    (pss_cons (ps_set (i := 2) sc_l_twice_right.nd rfl (by first | exact Or.inl rfl | exact Or.inr rfl) (pe_makeS T.mk_Joint (ok_Joint_init T) (hr.mono (by omega)) (by rfl) T.g_Joint T.b_Joint_init (fun _ => passC) (pa_cons pe_str (pa_cons (pv 0) (pa_cons (pe_makeS T.mk_Only (ok_Only_init T) (hr.mono (by omega)) (by rfl) T.g_Only T.b_Only_init (fun _ => passC) (pa_cons (pe_makeS T.mk_Shifted (ok_Shifted_init T) (hr.mono (by omega)) (by rfl) T.g_Shifted T.b_Shifted_init (fun _ => passC) (pa_cons (pv 0) (pa_cons pe_int pa_nil))) (pa_cons (pe_tupP (pa_cons pe_non (pa_cons pe_int pa_nil))) pa_nil))) pa_nil)))))
    (pss_cons (ps_set (i := 3) sc_l_twice_right.nd rfl (by first | exact Or.inl rfl | exact Or.inr rfl) (pe_tupP (pa_cons pe_str (pa_cons pe_str (pa_cons (pv 1) (pa_cons (pe_tupP (pa_cons pe_str (pa_cons (pe_tupP (pa_cons pe_str (pa_cons (pv 1) (pa_cons pe_int pa_nil)))) (pa_cons (pe_tupP (pa_cons pe_non (pa_cons pe_int pa_nil))) pa_nil)))) pa_nil))))))
    (pss_cons (ps_set (i := 4) sc_l_twice_right.nd rfl (by first | exact Or.inl rfl | exact Or.inr rfl) (pe_callB call_len (by rfl) T.n_len (by decide +kernel) (pa_cons (pe_call (ok_l_kinds T) (hr.mono (by omega)) (by rfl) T.g_l_kinds T.F_l_kinds.kp T.b_l_kinds .nil pass0 (pa_cons (pv 1) pa_nil)) pa_nil)))
    (pss_cons (ps_expr (pe_bm PySem.F.plainAttrs_list PySem.F.slot_list_append PySem.F.type_list_append mt_append (pe_call (ok_names_in T) (hr.mono (by omega)) (by rfl) T.g_names_in T.F_names_in.kp T.b_names_in .nil pass0 (pa_cons (pv 2) pa_nil)) (pa_cons pe_str pa_nil)))
    (pss_cons (ps_if (PW.pt (pw_or (pt_cmpR (op_neU hr.units) (pe_either (pe_methS0 (pv 2) T.zf.ins_Named.cl T.me_Named_told (ok_Named_told T) (hr.mono (by omega)) T.b_Named_told (fun _ => pass0C)) (pe_either (pe_methS0 (pv 2) T.zf.ins_Flat.cl T.me_Flat_told (ok_Flat_told T) (hr.mono (by omega)) T.b_Flat_told (fun _ => pass0C)) (pe_either (pe_methS0 (pv 2) T.zf.ins_Only.cl T.me_Only_told (ok_Only_told T) (hr.mono (by omega)) T.b_Only_told (fun _ => pass0C)) (pe_either (pe_methS0 (pv 2) T.zf.ins_Shifted.cl T.me_Shifted_told (ok_Shifted_told T) (hr.mono (by omega)) T.b_Shifted_told (fun _ => pass0C)) (pe_either (pe_methS0 (pv 2) T.zf.ins_Flipped.cl T.me_Flipped_told (ok_Flipped_told T) (hr.mono (by omega)) T.b_Flipped_told (fun _ => pass0C)) (pe_methS0 (pv 2) T.zf.ins_Joint.cl T.me_Joint_told (ok_Joint_told T) (hr.mono (by omega)) T.b_Joint_told (fun _ => pass0C))))))) (pv 3) (nomark _)) (pw_or1 (pt_not (pt_truth (pe_call (ok_l_fields_right T) (hr.mono (by omega)) (by rfl) T.g_l_fields_right T.F_l_fields_right.kp T.b_l_fields_right .nil pass0 (pa_cons (pv 2) (pa_cons (pv 3) pa_nil))) (by intro _; rfl))))))
    (pss_one (ps_ret pe_bl)) pss_nil)
    (pss_one (ps_ret (pe_andT (pe_cmpR (op_eqU hr.units) (pe_call (ok_parts_in T) (hr.mono (by omega)) (by rfl) T.g_parts_in T.F_parts_in.kp T.b_parts_in .nil pass0 (pa_cons (pv 2) pa_nil)) (pe_op op_addU (pe_op op_mulU pe_int (pv 4)) pe_int) (nomark _)) (pe_one (pe_cmpR (op_eqU hr.units) (pe_call (ok_names_in T) (hr.mono (by omega)) (by rfl) T.g_names_in T.F_names_in.kp T.b_names_in .nil pass0 (pa_cons (pv 2) pa_nil)) (pe_sortTx (by rfl) T.n_sorted (by rfl) T.n_set (pe_call (ok_l_names_of T) (hr.mono (by omega)) (by rfl) T.g_l_names_of T.F_l_names_of.kp T.b_l_names_of .nil pass0 (pa_cons (pv 1) pa_nil))) (nomark _)))))))))))) (fun E xs out h => (rd_l_twice_right K Z E) ▸ sd_run (Hy := HY Z) T.zf h)
theorem ok_law (T : Txt K mg Z) : FnOk P w K mg base CX0 20 T.a_law T.d_law ["_law_script"] (spD K (RF (F_law Z))) :=
  ok_def (t := t_law K Z) T.F_law sc_law hl_run (fun cdv A outer s H E hr =>
    (pss_cons (ps_for PassesOwn.never rfl (pi_rangeW1 rfl T.n_range (pa_cons (pe_op op_addU (pe_callB (call_min2 rfl) (by rfl) T.n_min (by decide +kernel) (pa_cons pe_int (pa_cons (pe_callB call_len (by rfl) T.n_len (by decide +kernel) (pa_cons (pv 0) pa_nil)) pa_nil))) pe_int) pa_nil)) (pg_name (i := 1) sc_law.nd rfl (by first | exact Or.inl rfl | exact Or.inr rfl))
    (pss_cons (ps_set (i := 2) sc_law.nd rfl (by first | exact Or.inl rfl | exact Or.inr rfl) (pe_call (ok_l_cell T) (hr.mono (by omega)) (by rfl) T.g_l_cell T.F_l_cell.kp T.b_l_cell .nil pass0 (pa_cons (pv 0) (pa_cons (pe_op op_addU pe_int (pv 1)) pa_nil))))
    (pss_cons (ps_set (i := 3) sc_law.nd rfl (by first | exact Or.inl rfl | exact Or.inr rfl) (pe_call (ok_l_tree T) (hr.mono (by omega)) (by rfl) T.g_l_tree T.F_l_tree.kp T.b_l_tree .nil pass0 (pa_cons (pv 0) (pa_cons (pe_op op_mulU pe_int (pv 1)) (pa_cons pe_int (pa_cons (pe_op op_mod (pv 2) pe_int) pa_nil))))))
    (pss_cons (ps_if (pt_cmpR (op_eqU hr.units) (pe_op op_mod (pe_op op_fdivW (pv 2) pe_int) pe_int) pe_int (nomark _))
    (pss_one (ps_set (i := 3) sc_law.nd rfl (by first | exact Or.inl rfl | exact Or.inr rfl) (pe_call (ok_l_deep_tree T) (hr.mono (by omega)) (by rfl) T.g_l_deep_tree T.F_l_deep_tree.kp T.b_l_deep_tree .nil pass0 (pa_cons (pv 0) (pa_cons (pe_op op_addU pe_int (pe_op op_mulU pe_int (pv 1))) pa_nil))))) pss_nil)
    (pss_cons (ps_set (i := 4) sc_law.nd rfl (by first | exact Or.inl rfl | exact Or.inr rfl) (pe_call (ok_l_made T) (hr.mono (by omega)) (by rfl) T.g_l_made T.F_l_made.kp T.b_l_made .nil pass0 (pa_cons (pv 3) pa_nil)))
    (pss_cons (ps_if (PW.pt (pw_or (pt_not (pt_truth (pe_callB call_isU (by rfl) T.n_isinstance (by decide +kernel) (pa_cons (pv 4) (pa_cons (pe_glob (v := .ref Z.Tree) (by rfl) T.g_Tree rfl) pa_nil))) (by intro _; rfl))) (pw_or (pt_cmpR (op_neU hr.units) (pe_either (pe_methS0 (pv 4) T.zf.ins_Named.cl T.me_Named_told (ok_Named_told T) (hr.mono (by omega)) T.b_Named_told (fun _ => pass0C)) (pe_either (pe_methS0 (pv 4) T.zf.ins_Flat.cl T.me_Flat_told (ok_Flat_told T) (hr.mono (by omega)) T.b_Flat_told (fun _ => pass0C)) (pe_either (pe_methS0 (pv 4) T.zf.ins_Only.cl T.me_Only_told (ok_Only_told T) (hr.mono (by omega)) T.b_Only_told (fun _ => pass0C)) (pe_either (pe_methS0 (pv 4) T.zf.ins_Shifted.cl T.me_Shifted_told (ok_Shifted_told T) (hr.mono (by omega)) T.b_Shifted_told (fun _ => pass0C)) (pe_either (pe_methS0 (pv 4) T.zf.ins_Flipped.cl T.me_Flipped_told (ok_Flipped_told T) (hr.mono (by omega)) T.b_Flipped_told (fun _ => pass0C)) (pe_methS0 (pv 4) T.zf.ins_Joint.cl T.me_Joint_told (ok_Joint_told T) (hr.mono (by omega)) T.b_Joint_told (fun _ => pass0C))))))) (pv 3) (nomark _)) (pw_or1 (pt_not (pt_truth (pe_callB call_isU (by rfl) T.n_isinstance (by decide +kernel) (pa_cons (pe_either (pe_methS0 (pv 4) T.zf.ins_Named.cl T.me_Named_told (ok_Named_told T) (hr.mono (by omega)) T.b_Named_told (fun _ => pass0C)) (pe_either (pe_methS0 (pv 4) T.zf.ins_Flat.cl T.me_Flat_told (ok_Flat_told T) (hr.mono (by omega)) T.b_Flat_told (fun _ => pass0C)) (pe_either (pe_methS0 (pv 4) T.zf.ins_Only.cl T.me_Only_told (ok_Only_told T) (hr.mono (by omega)) T.b_Only_told (fun _ => pass0C)) (pe_either (pe_methS0 (pv 4) T.zf.ins_Shifted.cl T.me_Shifted_told (ok_Shifted_told T) (hr.mono (by omega)) T.b_Shifted_told (fun _ => pass0C)) (pe_either (pe_methS0 (pv 4) T.zf.ins_Flipped.cl T.me_Flipped_told (ok_Flipped_told T) (hr.mono (by omega)) T.b_Flipped_told (fun _ => pass0C)) (pe_methS0 (pv 4) T.zf.ins_Joint.cl T.me_Joint_told (ok_Joint_told T) (hr.mono (by omega)) T.b_Joint_told (fun _ => pass0C))))))) (pa_cons (pe_bltn (v := .ty "tuple") (by rfl) T.n_tuple (by decide +kernel) rfl) pa_nil))) (by intro _; rfl)))))))
    (pss_one (ps_ret pe_bl)) pss_nil)
    (pss_cons (ps_if (pt_not (pt_truth (pe_call (ok_l_fields_right T) (hr.mono (by omega)) (by rfl) T.g_l_fields_right T.F_l_fields_right.kp T.b_l_fields_right .nil pass0 (pa_cons (pv 4) (pa_cons (pv 3) pa_nil))) (by intro _; rfl)))
    (pss_one (ps_ret pe_bl)) pss_nil)
    (pss_cons (ps_if (PW.pt (pw_or (pt_cmpR (op_neU hr.units) (pe_call (ok_parts_in T) (hr.mono (by omega)) (by rfl) T.g_parts_in T.F_parts_in.kp T.b_parts_in .nil pass0 (pa_cons (pv 4) pa_nil)) (pe_callB call_len (by rfl) T.n_len (by decide +kernel) (pa_cons (pe_call (ok_l_kinds T) (hr.mono (by omega)) (by rfl) T.g_l_kinds T.F_l_kinds.kp T.b_l_kinds .nil pass0 (pa_cons (pv 3) pa_nil)) pa_nil)) (nomark _)) (pw_or1 (pt_cmpR (op_neU hr.units) (pe_call (ok_names_in T) (hr.mono (by omega)) (by rfl) T.g_names_in T.F_names_in.kp T.b_names_in .nil pass0 (pa_cons (pv 4) pa_nil)) (pe_sortTx (by rfl) T.n_sorted (by rfl) T.n_set (pe_call (ok_l_names_of T) (hr.mono (by omega)) (by rfl) T.g_l_names_of T.F_l_names_of.kp T.b_l_names_of .nil pass0 (pa_cons (pv 3) pa_nil))) (nomark _)))))
    (pss_one (ps_ret pe_bl)) pss_nil)
    (pss_one (ps_if (PW.pt (pw_and (pt_cmpR (op_neU hr.units) (pe_op op_mod (pe_op op_fdivW (pv 2) pe_int) pe_int) pe_int (nomark _)) (pw_and (pt_cmpR op_lt (pe_callB call_len (by rfl) T.n_len (by decide +kernel) (pa_cons (pe_call (ok_l_kinds T) (hr.mono (by omega)) (by rfl) T.g_l_kinds T.F_l_kinds.kp T.b_l_kinds .nil pass0 (pa_cons (pv 3) pa_nil)) pa_nil)) pe_int (nomark _)) (pw_and1 (pt_not (pt_truth (pe_call (ok_l_twice_right T) (hr.mono (by omega)) (by rfl) T.g_l_twice_right T.F_l_twice_right.kp T.b_l_twice_right .nil pass0 (pa_cons (pv 4) (pa_cons (pv 3) pa_nil))) (by intro _; rfl)))))))
    (pss_one (ps_ret pe_bl)) pss_nil))))))))))
    (pss_cons (ps_for PassesOwn.never rfl (pi_rangeW1 rfl T.n_range (pa_cons pe_int pa_nil)) (pg_name (i := 1) sc_law.nd rfl (by first | exact Or.inl rfl | exact Or.inr rfl))
    (pss_cons (ps_set (i := 2) sc_law.nd rfl (by first | exact Or.inl rfl | exact Or.inr rfl) (pe_call (ok_l_cell T) (hr.mono (by omega)) (by rfl) T.g_l_cell T.F_l_cell.kp T.b_l_cell .nil pass0 (pa_cons (pv 0) (pa_cons (pe_op op_addU pe_int (pv 1)) pa_nil))))
    (pss_cons (ps_set (i := 5) sc_law.nd rfl (by first | exact Or.inl rfl | exact Or.inr rfl) pe_non)
    (pss_cons (ps_try_keep (i := 8) (j := 5) rfl rfl rfl sc_law.nd rfl rfl rfl (by first | exact Or.inl rfl | exact Or.inr rfl) ⟨by rfl, by decide, .inl T.g_FarError⟩ (fun W pn xe tk po =>
    (pss_one (ps_expr (pe_callS (ok_l_wrong T) (hr.mono (by omega)) (by rfl) T.g_l_wrong T.F_l_wrong.kp T.b_l_wrong (fun σ => passAt tk σ) (pa_cons (pv 2) pa_nil))))) (fun a oe pn => pss_one (ps_set (i := 5) sc_law.nd rfl (by first | exact Or.inl rfl | exact Or.inr rfl) (pv 8))))
    (pss_cons (ps_if (PW.pt (pw_or (pt_cmpR op_isN1 (pv 5) pe_non (nomark _)) (pw_or1 (pt_cmpR (op_neU hr.units) (pe_call (ok_l_word_of T) (hr.mono (by omega)) (by rfl) T.g_l_word_of T.F_l_word_of.kp T.b_l_word_of .nil pass0 (pa_cons (pv 5) pa_nil)) pe_str (nomark _)))))
    (pss_one (ps_ret pe_bl)) pss_nil)
    (pss_cons (ps_set (i := 6) sc_law.nd rfl (by first | exact Or.inl rfl | exact Or.inr rfl) (pe_ix ix_seq (pe_op op_addU (pe_call0 (ok_l_names T) (hr.mono (by omega)) (by rfl) T.g_l_names T.F_l_names.kp T.b_l_names .nil pass0) (pe_lst (pa_cons pe_str (pa_cons pe_str (pa_cons pe_str (pa_cons pe_str (pa_cons (pe_call (ok_l_odd_name T) (hr.mono (by omega)) (by rfl) T.g_l_odd_name T.F_l_odd_name.kp T.b_l_odd_name .nil pass0 (pa_cons (pe_op op_fdivW (pv 2) pe_int) pa_nil)) pa_nil))))))) (pe_op op_mod (pe_op op_fdivW (pv 2) pe_int) pe_int) (fun _ _ => rfl)))
    (pss_cons (ps_set (i := 7) sc_law.nd rfl (by first | exact Or.inl rfl | exact Or.inr rfl) (pe_call (ok_is_name T) (hr.mono (by omega)) (by rfl) T.g_is_name T.F_is_name.kp T.b_is_name .nil pass0 (pa_cons (pv 6) pa_nil)))
    (pss_one (ps_if (PW.pt (pw_or (pt_not (pt_truth (pe_callB call_isU (by rfl) T.n_isinstance (by decide +kernel) (pa_cons (pv 7) (pa_cons (pe_bltn (v := .ty "bool") (by rfl) T.n_bool (by decide +kernel) rfl) pa_nil))) (by intro _; rfl))) (pw_or1 (pt_cmpR (op_neU hr.units) (pv 7) (pe_call (ok_l_is_name T) (hr.mono (by omega)) (by rfl) T.g_l_is_name T.F_l_is_name.kp T.b_l_is_name .nil pass0 (pa_cons (pv 6) pa_nil)) (nomark _)))))
    (pss_one (ps_ret pe_bl)) pss_nil)))))))))
    (pss_one (ps_ret pe_bl))))) (fun E xs out h => (rd_law K Z E) ▸ sd_run (Hy := HY Z) T.zf h)
end
theorem all_mk {l : PySem.W.OpenLaw} {w : World} {K : PySem.W.Frag} {h : Heap} {mg : Str → Option Value} {fa : Addr} (X : K.In h) (G : h.Ns mainGlobals mg) (hfa : mg "law" = some (.ref fa))
    {c_FarError c_NoSpan c_NoValue c_NoPlace c_NoCount c_NoWheel c_NoRow c_NoWord c_NoWalker c_NoState c_NoName c_NoVersion c_NoTree c_TooMany c_NoText c_Rule c_Over c_Where c_Without c_Sum c_Less c_Least c_Greatest c_Same c_Tree c_Named c_Flat c_Only c_Shifted c_Flipped c_Joint : Addr}
    (ga_FarError : PySem.W.nsIn K mainGlobals "FarError" = some (some (.ref c_FarError)))
    (ga_NoSpan : PySem.W.nsIn K mainGlobals "NoSpan" = some (some (.ref c_NoSpan)))
    (ga_NoValue : PySem.W.nsIn K mainGlobals "NoValue" = some (some (.ref c_NoValue)))
    (ga_NoPlace : PySem.W.nsIn K mainGlobals "NoPlace" = some (some (.ref c_NoPlace)))
    (ga_NoCount : PySem.W.nsIn K mainGlobals "NoCount" = some (some (.ref c_NoCount)))
    (ga_NoWheel : PySem.W.nsIn K mainGlobals "NoWheel" = some (some (.ref c_NoWheel)))
    (ga_NoRow : PySem.W.nsIn K mainGlobals "NoRow" = some (some (.ref c_NoRow)))
    (ga_NoWord : PySem.W.nsIn K mainGlobals "NoWord" = some (some (.ref c_NoWord)))
    (ga_NoWalker : PySem.W.nsIn K mainGlobals "NoWalker" = some (some (.ref c_NoWalker)))
    (ga_NoState : PySem.W.nsIn K mainGlobals "NoState" = some (some (.ref c_NoState)))
    (ga_NoName : PySem.W.nsIn K mainGlobals "NoName" = some (some (.ref c_NoName)))
    (ga_NoVersion : PySem.W.nsIn K mainGlobals "NoVersion" = some (some (.ref c_NoVersion)))
    (ga_NoTree : PySem.W.nsIn K mainGlobals "NoTree" = some (some (.ref c_NoTree)))
    (ga_TooMany : PySem.W.nsIn K mainGlobals "TooMany" = some (some (.ref c_TooMany)))
    (ga_NoText : PySem.W.nsIn K mainGlobals "NoText" = some (some (.ref c_NoText)))
    (ga_Rule : PySem.W.nsIn K mainGlobals "Rule" = some (some (.ref c_Rule)))
    (ga_Over : PySem.W.nsIn K mainGlobals "Over" = some (some (.ref c_Over)))
    (ga_Where : PySem.W.nsIn K mainGlobals "Where" = some (some (.ref c_Where)))
    (ga_Without : PySem.W.nsIn K mainGlobals "Without" = some (some (.ref c_Without)))
    (ga_Sum : PySem.W.nsIn K mainGlobals "Sum" = some (some (.ref c_Sum)))
    (ga_Less : PySem.W.nsIn K mainGlobals "Less" = some (some (.ref c_Less)))
    (ga_Least : PySem.W.nsIn K mainGlobals "Least" = some (some (.ref c_Least)))
    (ga_Greatest : PySem.W.nsIn K mainGlobals "Greatest" = some (some (.ref c_Greatest)))
    (ga_Same : PySem.W.nsIn K mainGlobals "Same" = some (some (.ref c_Same)))
    (ga_Tree : PySem.W.nsIn K mainGlobals "Tree" = some (some (.ref c_Tree)))
    (ga_Named : PySem.W.nsIn K mainGlobals "Named" = some (some (.ref c_Named)))
    (ga_Flat : PySem.W.nsIn K mainGlobals "Flat" = some (some (.ref c_Flat)))
    (ga_Only : PySem.W.nsIn K mainGlobals "Only" = some (some (.ref c_Only)))
    (ga_Shifted : PySem.W.nsIn K mainGlobals "Shifted" = some (some (.ref c_Shifted)))
    (ga_Flipped : PySem.W.nsIn K mainGlobals "Flipped" = some (some (.ref c_Flipped)))
    (ga_Joint : PySem.W.nsIn K mainGlobals "Joint" = some (some (.ref c_Joint)))
    {f_Rule_rule_word : Addr} {od_Rule_rule_word an_Rule_rule_word : Option Addr} {sl_Rule_rule_word : Array (Option Value)} {oc_Rule_rule_word kV_Rule_rule_word dc_Rule_rule_word pm_Rule_rule_word cd_Rule_rule_word ct_Rule_rule_word : Value}
    (a_Rule_rule_word : PySem.W.findIn K (.ref c_Rule) "rule_word" = some (some (.ref f_Rule_rule_word)))
    (i_Rule_rule_word : PySem.W.isFn K (.ref f_Rule_rule_word) = true)
    (l_Rule_rule_word : K.lookup f_Rule_rule_word = some ⟨oc_Rule_rule_word, od_Rule_rule_word, .func (PySem.W.fnOf "rule_word" "Rule.rule_word" (defArgs s_Rule_rule_word) (defBody s_Rule_rule_word) (defScope s_Rule_rule_word) .none kV_Rule_rule_word dc_Rule_rule_word pm_Rule_rule_word an_Rule_rule_word cd_Rule_rule_word ct_Rule_rule_word), sl_Rule_rule_word⟩)
    (c_Rule_rule_word : PySem.W.codeIn K cd_Rule_rule_word "Rule.rule_word" = true)
    (k_Rule_rule_word : PySem.W.keepIn K (.ref f_Rule_rule_word) = true)
    {f_Over_rule_word : Addr} {od_Over_rule_word an_Over_rule_word : Option Addr} {sl_Over_rule_word : Array (Option Value)} {oc_Over_rule_word kV_Over_rule_word dc_Over_rule_word pm_Over_rule_word cd_Over_rule_word ct_Over_rule_word : Value}
    (a_Over_rule_word : PySem.W.findIn K (.ref c_Over) "rule_word" = some (some (.ref f_Over_rule_word)))
    (i_Over_rule_word : PySem.W.isFn K (.ref f_Over_rule_word) = true)
    (l_Over_rule_word : K.lookup f_Over_rule_word = some ⟨oc_Over_rule_word, od_Over_rule_word, .func (PySem.W.fnOf "rule_word" "Over.rule_word" (defArgs s_Over_rule_word) (defBody s_Over_rule_word) (defScope s_Over_rule_word) .none kV_Over_rule_word dc_Over_rule_word pm_Over_rule_word an_Over_rule_word cd_Over_rule_word ct_Over_rule_word), sl_Over_rule_word⟩)
    (c_Over_rule_word : PySem.W.codeIn K cd_Over_rule_word "Over.rule_word" = true)
    (k_Over_rule_word : PySem.W.keepIn K (.ref f_Over_rule_word) = true)
    {f_Where_rule_word : Addr} {od_Where_rule_word an_Where_rule_word : Option Addr} {sl_Where_rule_word : Array (Option Value)} {oc_Where_rule_word kV_Where_rule_word dc_Where_rule_word pm_Where_rule_word cd_Where_rule_word ct_Where_rule_word : Value}
    (a_Where_rule_word : PySem.W.findIn K (.ref c_Where) "rule_word" = some (some (.ref f_Where_rule_word)))
    (i_Where_rule_word : PySem.W.isFn K (.ref f_Where_rule_word) = true)
    (l_Where_rule_word : K.lookup f_Where_rule_word = some ⟨oc_Where_rule_word, od_Where_rule_word, .func (PySem.W.fnOf "rule_word" "Where.rule_word" (defArgs s_Where_rule_word) (defBody s_Where_rule_word) (defScope s_Where_rule_word) .none kV_Where_rule_word dc_Where_rule_word pm_Where_rule_word an_Where_rule_word cd_Where_rule_word ct_Where_rule_word), sl_Where_rule_word⟩)
    (c_Where_rule_word : PySem.W.codeIn K cd_Where_rule_word "Where.rule_word" = true)
    (k_Where_rule_word : PySem.W.keepIn K (.ref f_Where_rule_word) = true)
    {f_Without_rule_word : Addr} {od_Without_rule_word an_Without_rule_word : Option Addr} {sl_Without_rule_word : Array (Option Value)} {oc_Without_rule_word kV_Without_rule_word dc_Without_rule_word pm_Without_rule_word cd_Without_rule_word ct_Without_rule_word : Value}
    (a_Without_rule_word : PySem.W.findIn K (.ref c_Without) "rule_word" = some (some (.ref f_Without_rule_word)))
    (i_Without_rule_word : PySem.W.isFn K (.ref f_Without_rule_word) = true)
    (l_Without_rule_word : K.lookup f_Without_rule_word = some ⟨oc_Without_rule_word, od_Without_rule_word, .func (PySem.W.fnOf "rule_word" "Without.rule_word" (defArgs s_Without_rule_word) (defBody s_Without_rule_word) (defScope s_Without_rule_word) .none kV_Without_rule_word dc_Without_rule_word pm_Without_rule_word an_Without_rule_word cd_Without_rule_word ct_Without_rule_word), sl_Without_rule_word⟩)
    (c_Without_rule_word : PySem.W.codeIn K cd_Without_rule_word "Without.rule_word" = true)
    (k_Without_rule_word : PySem.W.keepIn K (.ref f_Without_rule_word) = true)
    {f_Sum_rule_word : Addr} {od_Sum_rule_word an_Sum_rule_word : Option Addr} {sl_Sum_rule_word : Array (Option Value)} {oc_Sum_rule_word kV_Sum_rule_word dc_Sum_rule_word pm_Sum_rule_word cd_Sum_rule_word ct_Sum_rule_word : Value}
    (a_Sum_rule_word : PySem.W.findIn K (.ref c_Sum) "rule_word" = some (some (.ref f_Sum_rule_word)))
    (i_Sum_rule_word : PySem.W.isFn K (.ref f_Sum_rule_word) = true)
    (l_Sum_rule_word : K.lookup f_Sum_rule_word = some ⟨oc_Sum_rule_word, od_Sum_rule_word, .func (PySem.W.fnOf "rule_word" "Sum.rule_word" (defArgs s_Sum_rule_word) (defBody s_Sum_rule_word) (defScope s_Sum_rule_word) .none kV_Sum_rule_word dc_Sum_rule_word pm_Sum_rule_word an_Sum_rule_word cd_Sum_rule_word ct_Sum_rule_word), sl_Sum_rule_word⟩)
    (c_Sum_rule_word : PySem.W.codeIn K cd_Sum_rule_word "Sum.rule_word" = true)
    (k_Sum_rule_word : PySem.W.keepIn K (.ref f_Sum_rule_word) = true)
    {f_Less_rule_word : Addr} {od_Less_rule_word an_Less_rule_word : Option Addr} {sl_Less_rule_word : Array (Option Value)} {oc_Less_rule_word kV_Less_rule_word dc_Less_rule_word pm_Less_rule_word cd_Less_rule_word ct_Less_rule_word : Value}
    (a_Less_rule_word : PySem.W.findIn K (.ref c_Less) "rule_word" = some (some (.ref f_Less_rule_word)))
    (i_Less_rule_word : PySem.W.isFn K (.ref f_Less_rule_word) = true)
    (l_Less_rule_word : K.lookup f_Less_rule_word = some ⟨oc_Less_rule_word, od_Less_rule_word, .func (PySem.W.fnOf "rule_word" "Less.rule_word" (defArgs s_Less_rule_word) (defBody s_Less_rule_word) (defScope s_Less_rule_word) .none kV_Less_rule_word dc_Less_rule_word pm_Less_rule_word an_Less_rule_word cd_Less_rule_word ct_Less_rule_word), sl_Less_rule_word⟩)
    (c_Less_rule_word : PySem.W.codeIn K cd_Less_rule_word "Less.rule_word" = true)
    (k_Less_rule_word : PySem.W.keepIn K (.ref f_Less_rule_word) = true)
    {f_Least_rule_word : Addr} {od_Least_rule_word an_Least_rule_word : Option Addr} {sl_Least_rule_word : Array (Option Value)} {oc_Least_rule_word kV_Least_rule_word dc_Least_rule_word pm_Least_rule_word cd_Least_rule_word ct_Least_rule_word : Value}
    (a_Least_rule_word : PySem.W.findIn K (.ref c_Least) "rule_word" = some (some (.ref f_Least_rule_word)))
    (i_Least_rule_word : PySem.W.isFn K (.ref f_Least_rule_word) = true)
    (l_Least_rule_word : K.lookup f_Least_rule_word = some ⟨oc_Least_rule_word, od_Least_rule_word, .func (PySem.W.fnOf "rule_word" "Least.rule_word" (defArgs s_Least_rule_word) (defBody s_Least_rule_word) (defScope s_Least_rule_word) .none kV_Least_rule_word dc_Least_rule_word pm_Least_rule_word an_Least_rule_word cd_Least_rule_word ct_Least_rule_word), sl_Least_rule_word⟩)
    (c_Least_rule_word : PySem.W.codeIn K cd_Least_rule_word "Least.rule_word" = true)
    (k_Least_rule_word : PySem.W.keepIn K (.ref f_Least_rule_word) = true)
    {f_Greatest_rule_word : Addr} {od_Greatest_rule_word an_Greatest_rule_word : Option Addr} {sl_Greatest_rule_word : Array (Option Value)} {oc_Greatest_rule_word kV_Greatest_rule_word dc_Greatest_rule_word pm_Greatest_rule_word cd_Greatest_rule_word ct_Greatest_rule_word : Value}
    (a_Greatest_rule_word : PySem.W.findIn K (.ref c_Greatest) "rule_word" = some (some (.ref f_Greatest_rule_word)))
    (i_Greatest_rule_word : PySem.W.isFn K (.ref f_Greatest_rule_word) = true)
    (l_Greatest_rule_word : K.lookup f_Greatest_rule_word = some ⟨oc_Greatest_rule_word, od_Greatest_rule_word, .func (PySem.W.fnOf "rule_word" "Greatest.rule_word" (defArgs s_Greatest_rule_word) (defBody s_Greatest_rule_word) (defScope s_Greatest_rule_word) .none kV_Greatest_rule_word dc_Greatest_rule_word pm_Greatest_rule_word an_Greatest_rule_word cd_Greatest_rule_word ct_Greatest_rule_word), sl_Greatest_rule_word⟩)
    (c_Greatest_rule_word : PySem.W.codeIn K cd_Greatest_rule_word "Greatest.rule_word" = true)
    (k_Greatest_rule_word : PySem.W.keepIn K (.ref f_Greatest_rule_word) = true)
    {f_Same_rule_word : Addr} {od_Same_rule_word an_Same_rule_word : Option Addr} {sl_Same_rule_word : Array (Option Value)} {oc_Same_rule_word kV_Same_rule_word dc_Same_rule_word pm_Same_rule_word cd_Same_rule_word ct_Same_rule_word : Value}
    (a_Same_rule_word : PySem.W.findIn K (.ref c_Same) "rule_word" = some (some (.ref f_Same_rule_word)))
    (i_Same_rule_word : PySem.W.isFn K (.ref f_Same_rule_word) = true)
    (l_Same_rule_word : K.lookup f_Same_rule_word = some ⟨oc_Same_rule_word, od_Same_rule_word, .func (PySem.W.fnOf "rule_word" "Same.rule_word" (defArgs s_Same_rule_word) (defBody s_Same_rule_word) (defScope s_Same_rule_word) .none kV_Same_rule_word dc_Same_rule_word pm_Same_rule_word an_Same_rule_word cd_Same_rule_word ct_Same_rule_word), sl_Same_rule_word⟩)
    (c_Same_rule_word : PySem.W.codeIn K cd_Same_rule_word "Same.rule_word" = true)
    (k_Same_rule_word : PySem.W.keepIn K (.ref f_Same_rule_word) = true)
    {f_all_rules : Addr} {od_all_rules an_all_rules : Option Addr} {sl_all_rules : Array (Option Value)} {oc_all_rules kV_all_rules dc_all_rules pm_all_rules cd_all_rules ct_all_rules : Value}
    (a_all_rules : PySem.W.nsIn K mainGlobals "all_rules" = some (some (.ref f_all_rules)))
    (l_all_rules : K.lookup f_all_rules = some ⟨oc_all_rules, od_all_rules, .func (PySem.W.fnOf "all_rules" "all_rules" (defArgs s_all_rules) (defBody s_all_rules) (defScope s_all_rules) .none kV_all_rules dc_all_rules pm_all_rules an_all_rules cd_all_rules ct_all_rules), sl_all_rules⟩)
    (c_all_rules : PySem.W.codeIn K cd_all_rules "all_rules" = true)
    (k_all_rules : PySem.W.keepIn K (.ref f_all_rules) = true)
    {f_is_kept : Addr} {od_is_kept an_is_kept : Option Addr} {sl_is_kept : Array (Option Value)} {oc_is_kept kV_is_kept dc_is_kept pm_is_kept cd_is_kept ct_is_kept : Value}
    (a_is_kept : PySem.W.nsIn K mainGlobals "is_kept" = some (some (.ref f_is_kept)))
    (l_is_kept : K.lookup f_is_kept = some ⟨oc_is_kept, od_is_kept, .func (PySem.W.fnOf "is_kept" "is_kept" (defArgs s_is_kept) (defBody s_is_kept) (defScope s_is_kept) .none kV_is_kept dc_is_kept pm_is_kept an_is_kept cd_is_kept ct_is_kept), sl_is_kept⟩)
    (c_is_kept : PySem.W.codeIn K cd_is_kept "is_kept" = true)
    (k_is_kept : PySem.W.keepIn K (.ref f_is_kept) = true)
    {f_is_name : Addr} {od_is_name an_is_name : Option Addr} {sl_is_name : Array (Option Value)} {oc_is_name kV_is_name dc_is_name pm_is_name cd_is_name ct_is_name : Value}
    (a_is_name : PySem.W.nsIn K mainGlobals "is_name" = some (some (.ref f_is_name)))
    (l_is_name : K.lookup f_is_name = some ⟨oc_is_name, od_is_name, .func (PySem.W.fnOf "is_name" "is_name" (defArgs s_is_name) (defBody s_is_name) (defScope s_is_name) .none kV_is_name dc_is_name pm_is_name an_is_name cd_is_name ct_is_name), sl_is_name⟩)
    (c_is_name : PySem.W.codeIn K cd_is_name "is_name" = true)
    (k_is_name : PySem.W.keepIn K (.ref f_is_name) = true)
    {f_need_fit : Addr} {od_need_fit an_need_fit : Option Addr} {sl_need_fit : Array (Option Value)} {oc_need_fit kV_need_fit dc_need_fit pm_need_fit cd_need_fit ct_need_fit : Value}
    (a_need_fit : PySem.W.nsIn K mainGlobals "need_fit" = some (some (.ref f_need_fit)))
    (l_need_fit : K.lookup f_need_fit = some ⟨oc_need_fit, od_need_fit, .func (PySem.W.fnOf "need_fit" "need_fit" (defArgs s_need_fit) (defBody s_need_fit) (defScope s_need_fit) .none kV_need_fit dc_need_fit pm_need_fit an_need_fit cd_need_fit ct_need_fit), sl_need_fit⟩)
    (c_need_fit : PySem.W.codeIn K cd_need_fit "need_fit" = true)
    (k_need_fit : PySem.W.keepIn K (.ref f_need_fit) = true)
    {f_Named_init : Addr} {od_Named_init an_Named_init : Option Addr} {sl_Named_init : Array (Option Value)} {oc_Named_init kV_Named_init dc_Named_init pm_Named_init cd_Named_init ct_Named_init : Value}
    (a_Named_init : PySem.W.findIn K (.ref c_Named) "__init__" = some (some (.ref f_Named_init)))
    (i_Named_init : PySem.W.isFn K (.ref f_Named_init) = true)
    (l_Named_init : K.lookup f_Named_init = some ⟨oc_Named_init, od_Named_init, .func (PySem.W.fnOf "__init__" "Named.__init__" (defArgs s_Named_init) (defBody s_Named_init) (defScope s_Named_init) .none kV_Named_init dc_Named_init pm_Named_init an_Named_init cd_Named_init ct_Named_init), sl_Named_init⟩)
    (c_Named_init : PySem.W.codeIn K cd_Named_init "Named.__init__" = true)
    (k_Named_init : PySem.W.keepIn K (.ref f_Named_init) = true)
    {f_is_place : Addr} {od_is_place an_is_place : Option Addr} {sl_is_place : Array (Option Value)} {oc_is_place kV_is_place dc_is_place pm_is_place cd_is_place ct_is_place : Value}
    (a_is_place : PySem.W.nsIn K mainGlobals "is_place" = some (some (.ref f_is_place)))
    (l_is_place : K.lookup f_is_place = some ⟨oc_is_place, od_is_place, .func (PySem.W.fnOf "is_place" "is_place" (defArgs s_is_place) (defBody s_is_place) (defScope s_is_place) .none kV_is_place dc_is_place pm_is_place an_is_place cd_is_place ct_is_place), sl_is_place⟩)
    (c_is_place : PySem.W.codeIn K cd_is_place "is_place" = true)
    (k_is_place : PySem.W.keepIn K (.ref f_is_place) = true)
    {f_is_value : Addr} {od_is_value an_is_value : Option Addr} {sl_is_value : Array (Option Value)} {oc_is_value kV_is_value dc_is_value pm_is_value cd_is_value ct_is_value : Value}
    (a_is_value : PySem.W.nsIn K mainGlobals "is_value" = some (some (.ref f_is_value)))
    (l_is_value : K.lookup f_is_value = some ⟨oc_is_value, od_is_value, .func (PySem.W.fnOf "is_value" "is_value" (defArgs s_is_value) (defBody s_is_value) (defScope s_is_value) .none kV_is_value dc_is_value pm_is_value an_is_value cd_is_value ct_is_value), sl_is_value⟩)
    (c_is_value : PySem.W.codeIn K cd_is_value "is_value" = true)
    (k_is_value : PySem.W.keepIn K (.ref f_is_value) = true)
    {f_Flat_init : Addr} {od_Flat_init an_Flat_init : Option Addr} {sl_Flat_init : Array (Option Value)} {oc_Flat_init kV_Flat_init dc_Flat_init pm_Flat_init cd_Flat_init ct_Flat_init : Value}
    (a_Flat_init : PySem.W.findIn K (.ref c_Flat) "__init__" = some (some (.ref f_Flat_init)))
    (i_Flat_init : PySem.W.isFn K (.ref f_Flat_init) = true)
    (l_Flat_init : K.lookup f_Flat_init = some ⟨oc_Flat_init, od_Flat_init, .func (PySem.W.fnOf "__init__" "Flat.__init__" (defArgs s_Flat_init) (defBody s_Flat_init) (defScope s_Flat_init) .none kV_Flat_init dc_Flat_init pm_Flat_init an_Flat_init cd_Flat_init ct_Flat_init), sl_Flat_init⟩)
    (c_Flat_init : PySem.W.codeIn K cd_Flat_init "Flat.__init__" = true)
    (k_Flat_init : PySem.W.keepIn K (.ref f_Flat_init) = true)
    {f_is_span : Addr} {od_is_span an_is_span : Option Addr} {sl_is_span : Array (Option Value)} {oc_is_span kV_is_span dc_is_span pm_is_span cd_is_span ct_is_span : Value}
    (a_is_span : PySem.W.nsIn K mainGlobals "is_span" = some (some (.ref f_is_span)))
    (l_is_span : K.lookup f_is_span = some ⟨oc_is_span, od_is_span, .func (PySem.W.fnOf "is_span" "is_span" (defArgs s_is_span) (defBody s_is_span) (defScope s_is_span) .none kV_is_span dc_is_span pm_is_span an_is_span cd_is_span ct_is_span), sl_is_span⟩)
    (c_is_span : PySem.W.codeIn K cd_is_span "is_span" = true)
    (k_is_span : PySem.W.keepIn K (.ref f_is_span) = true)
    {f_Only_init : Addr} {od_Only_init an_Only_init : Option Addr} {sl_Only_init : Array (Option Value)} {oc_Only_init kV_Only_init dc_Only_init pm_Only_init cd_Only_init ct_Only_init : Value}
    (a_Only_init : PySem.W.findIn K (.ref c_Only) "__init__" = some (some (.ref f_Only_init)))
    (i_Only_init : PySem.W.isFn K (.ref f_Only_init) = true)
    (l_Only_init : K.lookup f_Only_init = some ⟨oc_Only_init, od_Only_init, .func (PySem.W.fnOf "__init__" "Only.__init__" (defArgs s_Only_init) (defBody s_Only_init) (defScope s_Only_init) .none kV_Only_init dc_Only_init pm_Only_init an_Only_init cd_Only_init ct_Only_init), sl_Only_init⟩)
    (c_Only_init : PySem.W.codeIn K cd_Only_init "Only.__init__" = true)
    (k_Only_init : PySem.W.keepIn K (.ref f_Only_init) = true)
    {f_Shifted_init : Addr} {od_Shifted_init an_Shifted_init : Option Addr} {sl_Shifted_init : Array (Option Value)} {oc_Shifted_init kV_Shifted_init dc_Shifted_init pm_Shifted_init cd_Shifted_init ct_Shifted_init : Value}
    (a_Shifted_init : PySem.W.findIn K (.ref c_Shifted) "__init__" = some (some (.ref f_Shifted_init)))
    (i_Shifted_init : PySem.W.isFn K (.ref f_Shifted_init) = true)
    (l_Shifted_init : K.lookup f_Shifted_init = some ⟨oc_Shifted_init, od_Shifted_init, .func (PySem.W.fnOf "__init__" "Shifted.__init__" (defArgs s_Shifted_init) (defBody s_Shifted_init) (defScope s_Shifted_init) .none kV_Shifted_init dc_Shifted_init pm_Shifted_init an_Shifted_init cd_Shifted_init ct_Shifted_init), sl_Shifted_init⟩)
    (c_Shifted_init : PySem.W.codeIn K cd_Shifted_init "Shifted.__init__" = true)
    (k_Shifted_init : PySem.W.keepIn K (.ref f_Shifted_init) = true)
    {f_Flipped_init : Addr} {od_Flipped_init an_Flipped_init : Option Addr} {sl_Flipped_init : Array (Option Value)} {oc_Flipped_init kV_Flipped_init dc_Flipped_init pm_Flipped_init cd_Flipped_init ct_Flipped_init : Value}
    (a_Flipped_init : PySem.W.findIn K (.ref c_Flipped) "__init__" = some (some (.ref f_Flipped_init)))
    (i_Flipped_init : PySem.W.isFn K (.ref f_Flipped_init) = true)
    (l_Flipped_init : K.lookup f_Flipped_init = some ⟨oc_Flipped_init, od_Flipped_init, .func (PySem.W.fnOf "__init__" "Flipped.__init__" (defArgs s_Flipped_init) (defBody s_Flipped_init) (defScope s_Flipped_init) .none kV_Flipped_init dc_Flipped_init pm_Flipped_init an_Flipped_init cd_Flipped_init ct_Flipped_init), sl_Flipped_init⟩)
    (c_Flipped_init : PySem.W.codeIn K cd_Flipped_init "Flipped.__init__" = true)
    (k_Flipped_init : PySem.W.keepIn K (.ref f_Flipped_init) = true)
    {f_rule_by : Addr} {od_rule_by an_rule_by : Option Addr} {sl_rule_by : Array (Option Value)} {oc_rule_by kV_rule_by dc_rule_by pm_rule_by cd_rule_by ct_rule_by : Value}
    (a_rule_by : PySem.W.nsIn K mainGlobals "rule_by" = some (some (.ref f_rule_by)))
    (l_rule_by : K.lookup f_rule_by = some ⟨oc_rule_by, od_rule_by, .func (PySem.W.fnOf "rule_by" "rule_by" (defArgs s_rule_by) (defBody s_rule_by) (defScope s_rule_by) .none kV_rule_by dc_rule_by pm_rule_by an_rule_by cd_rule_by ct_rule_by), sl_rule_by⟩)
    (c_rule_by : PySem.W.codeIn K cd_rule_by "rule_by" = true)
    (k_rule_by : PySem.W.keepIn K (.ref f_rule_by) = true)
    {f_Joint_init : Addr} {od_Joint_init an_Joint_init : Option Addr} {sl_Joint_init : Array (Option Value)} {oc_Joint_init kV_Joint_init dc_Joint_init pm_Joint_init cd_Joint_init ct_Joint_init : Value}
    (a_Joint_init : PySem.W.findIn K (.ref c_Joint) "__init__" = some (some (.ref f_Joint_init)))
    (i_Joint_init : PySem.W.isFn K (.ref f_Joint_init) = true)
    (l_Joint_init : K.lookup f_Joint_init = some ⟨oc_Joint_init, od_Joint_init, .func (PySem.W.fnOf "__init__" "Joint.__init__" (defArgs s_Joint_init) (defBody s_Joint_init) (defScope s_Joint_init) .none kV_Joint_init dc_Joint_init pm_Joint_init an_Joint_init cd_Joint_init ct_Joint_init), sl_Joint_init⟩)
    (c_Joint_init : PySem.W.codeIn K cd_Joint_init "Joint.__init__" = true)
    (k_Joint_init : PySem.W.keepIn K (.ref f_Joint_init) = true)
    {f_Tree_limbs : Addr} {od_Tree_limbs an_Tree_limbs : Option Addr} {sl_Tree_limbs : Array (Option Value)} {oc_Tree_limbs kV_Tree_limbs dc_Tree_limbs pm_Tree_limbs cd_Tree_limbs ct_Tree_limbs : Value}
    (a_Tree_limbs : PySem.W.findIn K (.ref c_Tree) "limbs" = some (some (.ref f_Tree_limbs)))
    (i_Tree_limbs : PySem.W.isFn K (.ref f_Tree_limbs) = true)
    (l_Tree_limbs : K.lookup f_Tree_limbs = some ⟨oc_Tree_limbs, od_Tree_limbs, .func (PySem.W.fnOf "limbs" "Tree.limbs" (defArgs s_Tree_limbs) (defBody s_Tree_limbs) (defScope s_Tree_limbs) .none kV_Tree_limbs dc_Tree_limbs pm_Tree_limbs an_Tree_limbs cd_Tree_limbs ct_Tree_limbs), sl_Tree_limbs⟩)
    (c_Tree_limbs : PySem.W.codeIn K cd_Tree_limbs "Tree.limbs" = true)
    (k_Tree_limbs : PySem.W.keepIn K (.ref f_Tree_limbs) = true)
    {f_Tree_own_names : Addr} {od_Tree_own_names an_Tree_own_names : Option Addr} {sl_Tree_own_names : Array (Option Value)} {oc_Tree_own_names kV_Tree_own_names dc_Tree_own_names pm_Tree_own_names cd_Tree_own_names ct_Tree_own_names : Value}
    (a_Tree_own_names : PySem.W.findIn K (.ref c_Tree) "own_names" = some (some (.ref f_Tree_own_names)))
    (i_Tree_own_names : PySem.W.isFn K (.ref f_Tree_own_names) = true)
    (l_Tree_own_names : K.lookup f_Tree_own_names = some ⟨oc_Tree_own_names, od_Tree_own_names, .func (PySem.W.fnOf "own_names" "Tree.own_names" (defArgs s_Tree_own_names) (defBody s_Tree_own_names) (defScope s_Tree_own_names) .none kV_Tree_own_names dc_Tree_own_names pm_Tree_own_names an_Tree_own_names cd_Tree_own_names ct_Tree_own_names), sl_Tree_own_names⟩)
    (c_Tree_own_names : PySem.W.codeIn K cd_Tree_own_names "Tree.own_names" = true)
    (k_Tree_own_names : PySem.W.keepIn K (.ref f_Tree_own_names) = true)
    {f_Named_own_names : Addr} {od_Named_own_names an_Named_own_names : Option Addr} {sl_Named_own_names : Array (Option Value)} {oc_Named_own_names kV_Named_own_names dc_Named_own_names pm_Named_own_names cd_Named_own_names ct_Named_own_names : Value}
    (a_Named_own_names : PySem.W.findIn K (.ref c_Named) "own_names" = some (some (.ref f_Named_own_names)))
    (i_Named_own_names : PySem.W.isFn K (.ref f_Named_own_names) = true)
    (l_Named_own_names : K.lookup f_Named_own_names = some ⟨oc_Named_own_names, od_Named_own_names, .func (PySem.W.fnOf "own_names" "Named.own_names" (defArgs s_Named_own_names) (defBody s_Named_own_names) (defScope s_Named_own_names) .none kV_Named_own_names dc_Named_own_names pm_Named_own_names an_Named_own_names cd_Named_own_names ct_Named_own_names), sl_Named_own_names⟩)
    (c_Named_own_names : PySem.W.codeIn K cd_Named_own_names "Named.own_names" = true)
    (k_Named_own_names : PySem.W.keepIn K (.ref f_Named_own_names) = true)
    {f_Named_told : Addr} {od_Named_told an_Named_told : Option Addr} {sl_Named_told : Array (Option Value)} {oc_Named_told kV_Named_told dc_Named_told pm_Named_told cd_Named_told ct_Named_told : Value}
    (a_Named_told : PySem.W.findIn K (.ref c_Named) "told" = some (some (.ref f_Named_told)))
    (i_Named_told : PySem.W.isFn K (.ref f_Named_told) = true)
    (l_Named_told : K.lookup f_Named_told = some ⟨oc_Named_told, od_Named_told, .func (PySem.W.fnOf "told" "Named.told" (defArgs s_Named_told) (defBody s_Named_told) (defScope s_Named_told) .none kV_Named_told dc_Named_told pm_Named_told an_Named_told cd_Named_told ct_Named_told), sl_Named_told⟩)
    (c_Named_told : PySem.W.codeIn K cd_Named_told "Named.told" = true)
    (k_Named_told : PySem.W.keepIn K (.ref f_Named_told) = true)
    {f_Flat_told : Addr} {od_Flat_told an_Flat_told : Option Addr} {sl_Flat_told : Array (Option Value)} {oc_Flat_told kV_Flat_told dc_Flat_told pm_Flat_told cd_Flat_told ct_Flat_told : Value}
    (a_Flat_told : PySem.W.findIn K (.ref c_Flat) "told" = some (some (.ref f_Flat_told)))
    (i_Flat_told : PySem.W.isFn K (.ref f_Flat_told) = true)
    (l_Flat_told : K.lookup f_Flat_told = some ⟨oc_Flat_told, od_Flat_told, .func (PySem.W.fnOf "told" "Flat.told" (defArgs s_Flat_told) (defBody s_Flat_told) (defScope s_Flat_told) .none kV_Flat_told dc_Flat_told pm_Flat_told an_Flat_told cd_Flat_told ct_Flat_told), sl_Flat_told⟩)
    (c_Flat_told : PySem.W.codeIn K cd_Flat_told "Flat.told" = true)
    (k_Flat_told : PySem.W.keepIn K (.ref f_Flat_told) = true)
    {f_Only_limbs : Addr} {od_Only_limbs an_Only_limbs : Option Addr} {sl_Only_limbs : Array (Option Value)} {oc_Only_limbs kV_Only_limbs dc_Only_limbs pm_Only_limbs cd_Only_limbs ct_Only_limbs : Value}
    (a_Only_limbs : PySem.W.findIn K (.ref c_Only) "limbs" = some (some (.ref f_Only_limbs)))
    (i_Only_limbs : PySem.W.isFn K (.ref f_Only_limbs) = true)
    (l_Only_limbs : K.lookup f_Only_limbs = some ⟨oc_Only_limbs, od_Only_limbs, .func (PySem.W.fnOf "limbs" "Only.limbs" (defArgs s_Only_limbs) (defBody s_Only_limbs) (defScope s_Only_limbs) .none kV_Only_limbs dc_Only_limbs pm_Only_limbs an_Only_limbs cd_Only_limbs ct_Only_limbs), sl_Only_limbs⟩)
    (c_Only_limbs : PySem.W.codeIn K cd_Only_limbs "Only.limbs" = true)
    (k_Only_limbs : PySem.W.keepIn K (.ref f_Only_limbs) = true)
    {f_Joint_told : Addr} {od_Joint_told an_Joint_told : Option Addr} {sl_Joint_told : Array (Option Value)} {oc_Joint_told kV_Joint_told dc_Joint_told pm_Joint_told cd_Joint_told ct_Joint_told : Value}
    (a_Joint_told : PySem.W.findIn K (.ref c_Joint) "told" = some (some (.ref f_Joint_told)))
    (i_Joint_told : PySem.W.isFn K (.ref f_Joint_told) = true)
    (l_Joint_told : K.lookup f_Joint_told = some ⟨oc_Joint_told, od_Joint_told, .func (PySem.W.fnOf "told" "Joint.told" (defArgs s_Joint_told) (defBody s_Joint_told) (defScope s_Joint_told) .none kV_Joint_told dc_Joint_told pm_Joint_told an_Joint_told cd_Joint_told ct_Joint_told), sl_Joint_told⟩)
    (c_Joint_told : PySem.W.codeIn K cd_Joint_told "Joint.told" = true)
    (k_Joint_told : PySem.W.keepIn K (.ref f_Joint_told) = true)
    {f_Flipped_told : Addr} {od_Flipped_told an_Flipped_told : Option Addr} {sl_Flipped_told : Array (Option Value)} {oc_Flipped_told kV_Flipped_told dc_Flipped_told pm_Flipped_told cd_Flipped_told ct_Flipped_told : Value}
    (a_Flipped_told : PySem.W.findIn K (.ref c_Flipped) "told" = some (some (.ref f_Flipped_told)))
    (i_Flipped_told : PySem.W.isFn K (.ref f_Flipped_told) = true)
    (l_Flipped_told : K.lookup f_Flipped_told = some ⟨oc_Flipped_told, od_Flipped_told, .func (PySem.W.fnOf "told" "Flipped.told" (defArgs s_Flipped_told) (defBody s_Flipped_told) (defScope s_Flipped_told) .none kV_Flipped_told dc_Flipped_told pm_Flipped_told an_Flipped_told cd_Flipped_told ct_Flipped_told), sl_Flipped_told⟩)
    (c_Flipped_told : PySem.W.codeIn K cd_Flipped_told "Flipped.told" = true)
    (k_Flipped_told : PySem.W.keepIn K (.ref f_Flipped_told) = true)
    {f_Shifted_told : Addr} {od_Shifted_told an_Shifted_told : Option Addr} {sl_Shifted_told : Array (Option Value)} {oc_Shifted_told kV_Shifted_told dc_Shifted_told pm_Shifted_told cd_Shifted_told ct_Shifted_told : Value}
    (a_Shifted_told : PySem.W.findIn K (.ref c_Shifted) "told" = some (some (.ref f_Shifted_told)))
    (i_Shifted_told : PySem.W.isFn K (.ref f_Shifted_told) = true)
    (l_Shifted_told : K.lookup f_Shifted_told = some ⟨oc_Shifted_told, od_Shifted_told, .func (PySem.W.fnOf "told" "Shifted.told" (defArgs s_Shifted_told) (defBody s_Shifted_told) (defScope s_Shifted_told) .none kV_Shifted_told dc_Shifted_told pm_Shifted_told an_Shifted_told cd_Shifted_told ct_Shifted_told), sl_Shifted_told⟩)
    (c_Shifted_told : PySem.W.codeIn K cd_Shifted_told "Shifted.told" = true)
    (k_Shifted_told : PySem.W.keepIn K (.ref f_Shifted_told) = true)
    {f_Only_told : Addr} {od_Only_told an_Only_told : Option Addr} {sl_Only_told : Array (Option Value)} {oc_Only_told kV_Only_told dc_Only_told pm_Only_told cd_Only_told ct_Only_told : Value}
    (a_Only_told : PySem.W.findIn K (.ref c_Only) "told" = some (some (.ref f_Only_told)))
    (i_Only_told : PySem.W.isFn K (.ref f_Only_told) = true)
    (l_Only_told : K.lookup f_Only_told = some ⟨oc_Only_told, od_Only_told, .func (PySem.W.fnOf "told" "Only.told" (defArgs s_Only_told) (defBody s_Only_told) (defScope s_Only_told) .none kV_Only_told dc_Only_told pm_Only_told an_Only_told cd_Only_told ct_Only_told), sl_Only_told⟩)
    (c_Only_told : PySem.W.codeIn K cd_Only_told "Only.told" = true)
    (k_Only_told : PySem.W.keepIn K (.ref f_Only_told) = true)
    {f_Shifted_limbs : Addr} {od_Shifted_limbs an_Shifted_limbs : Option Addr} {sl_Shifted_limbs : Array (Option Value)} {oc_Shifted_limbs kV_Shifted_limbs dc_Shifted_limbs pm_Shifted_limbs cd_Shifted_limbs ct_Shifted_limbs : Value}
    (a_Shifted_limbs : PySem.W.findIn K (.ref c_Shifted) "limbs" = some (some (.ref f_Shifted_limbs)))
    (i_Shifted_limbs : PySem.W.isFn K (.ref f_Shifted_limbs) = true)
    (l_Shifted_limbs : K.lookup f_Shifted_limbs = some ⟨oc_Shifted_limbs, od_Shifted_limbs, .func (PySem.W.fnOf "limbs" "Shifted.limbs" (defArgs s_Shifted_limbs) (defBody s_Shifted_limbs) (defScope s_Shifted_limbs) .none kV_Shifted_limbs dc_Shifted_limbs pm_Shifted_limbs an_Shifted_limbs cd_Shifted_limbs ct_Shifted_limbs), sl_Shifted_limbs⟩)
    (c_Shifted_limbs : PySem.W.codeIn K cd_Shifted_limbs "Shifted.limbs" = true)
    (k_Shifted_limbs : PySem.W.keepIn K (.ref f_Shifted_limbs) = true)
    {f_Flipped_limbs : Addr} {od_Flipped_limbs an_Flipped_limbs : Option Addr} {sl_Flipped_limbs : Array (Option Value)} {oc_Flipped_limbs kV_Flipped_limbs dc_Flipped_limbs pm_Flipped_limbs cd_Flipped_limbs ct_Flipped_limbs : Value}
    (a_Flipped_limbs : PySem.W.findIn K (.ref c_Flipped) "limbs" = some (some (.ref f_Flipped_limbs)))
    (i_Flipped_limbs : PySem.W.isFn K (.ref f_Flipped_limbs) = true)
    (l_Flipped_limbs : K.lookup f_Flipped_limbs = some ⟨oc_Flipped_limbs, od_Flipped_limbs, .func (PySem.W.fnOf "limbs" "Flipped.limbs" (defArgs s_Flipped_limbs) (defBody s_Flipped_limbs) (defScope s_Flipped_limbs) .none kV_Flipped_limbs dc_Flipped_limbs pm_Flipped_limbs an_Flipped_limbs cd_Flipped_limbs ct_Flipped_limbs), sl_Flipped_limbs⟩)
    (c_Flipped_limbs : PySem.W.codeIn K cd_Flipped_limbs "Flipped.limbs" = true)
    (k_Flipped_limbs : PySem.W.keepIn K (.ref f_Flipped_limbs) = true)
    {f_Joint_limbs : Addr} {od_Joint_limbs an_Joint_limbs : Option Addr} {sl_Joint_limbs : Array (Option Value)} {oc_Joint_limbs kV_Joint_limbs dc_Joint_limbs pm_Joint_limbs cd_Joint_limbs ct_Joint_limbs : Value}
    (a_Joint_limbs : PySem.W.findIn K (.ref c_Joint) "limbs" = some (some (.ref f_Joint_limbs)))
    (i_Joint_limbs : PySem.W.isFn K (.ref f_Joint_limbs) = true)
    (l_Joint_limbs : K.lookup f_Joint_limbs = some ⟨oc_Joint_limbs, od_Joint_limbs, .func (PySem.W.fnOf "limbs" "Joint.limbs" (defArgs s_Joint_limbs) (defBody s_Joint_limbs) (defScope s_Joint_limbs) .none kV_Joint_limbs dc_Joint_limbs pm_Joint_limbs an_Joint_limbs cd_Joint_limbs ct_Joint_limbs), sl_Joint_limbs⟩)
    (c_Joint_limbs : PySem.W.codeIn K cd_Joint_limbs "Joint.limbs" = true)
    (k_Joint_limbs : PySem.W.keepIn K (.ref f_Joint_limbs) = true)
    {f_all_parts : Addr} {od_all_parts an_all_parts : Option Addr} {sl_all_parts : Array (Option Value)} {oc_all_parts kV_all_parts dc_all_parts pm_all_parts cd_all_parts ct_all_parts : Value}
    (a_all_parts : PySem.W.nsIn K mainGlobals "all_parts" = some (some (.ref f_all_parts)))
    (l_all_parts : K.lookup f_all_parts = some ⟨oc_all_parts, od_all_parts, .func (PySem.W.fnOf "all_parts" "all_parts" (defArgs s_all_parts) (defBody s_all_parts) (defScope s_all_parts) .none kV_all_parts dc_all_parts pm_all_parts an_all_parts cd_all_parts ct_all_parts), sl_all_parts⟩)
    (c_all_parts : PySem.W.codeIn K cd_all_parts "all_parts" = true)
    (k_all_parts : PySem.W.keepIn K (.ref f_all_parts) = true)
    {f_names_in : Addr} {od_names_in an_names_in : Option Addr} {sl_names_in : Array (Option Value)} {oc_names_in kV_names_in dc_names_in pm_names_in cd_names_in ct_names_in : Value}
    (a_names_in : PySem.W.nsIn K mainGlobals "names_in" = some (some (.ref f_names_in)))
    (l_names_in : K.lookup f_names_in = some ⟨oc_names_in, od_names_in, .func (PySem.W.fnOf "names_in" "names_in" (defArgs s_names_in) (defBody s_names_in) (defScope s_names_in) .none kV_names_in dc_names_in pm_names_in an_names_in cd_names_in ct_names_in), sl_names_in⟩)
    (c_names_in : PySem.W.codeIn K cd_names_in "names_in" = true)
    (k_names_in : PySem.W.keepIn K (.ref f_names_in) = true)
    {f_parts_in : Addr} {od_parts_in an_parts_in : Option Addr} {sl_parts_in : Array (Option Value)} {oc_parts_in kV_parts_in dc_parts_in pm_parts_in cd_parts_in ct_parts_in : Value}
    (a_parts_in : PySem.W.nsIn K mainGlobals "parts_in" = some (some (.ref f_parts_in)))
    (l_parts_in : K.lookup f_parts_in = some ⟨oc_parts_in, od_parts_in, .func (PySem.W.fnOf "parts_in" "parts_in" (defArgs s_parts_in) (defBody s_parts_in) (defScope s_parts_in) .none kV_parts_in dc_parts_in pm_parts_in an_parts_in cd_parts_in ct_parts_in), sl_parts_in⟩)
    (c_parts_in : PySem.W.codeIn K cd_parts_in "parts_in" = true)
    (k_parts_in : PySem.W.keepIn K (.ref f_parts_in) = true)
    {f_l_cell : Addr} {od_l_cell an_l_cell : Option Addr} {sl_l_cell : Array (Option Value)} {oc_l_cell kV_l_cell dc_l_cell pm_l_cell cd_l_cell ct_l_cell : Value}
    (a_l_cell : PySem.W.nsIn K mainGlobals "_law_cell" = some (some (.ref f_l_cell)))
    (l_l_cell : K.lookup f_l_cell = some ⟨oc_l_cell, od_l_cell, .func (PySem.W.fnOf "_law_cell" "_law_cell" (defArgs s_l_cell) (defBody s_l_cell) (defScope s_l_cell) .none kV_l_cell dc_l_cell pm_l_cell an_l_cell cd_l_cell ct_l_cell), sl_l_cell⟩)
    (c_l_cell : PySem.W.codeIn K cd_l_cell "_law_cell" = true)
    (k_l_cell : PySem.W.keepIn K (.ref f_l_cell) = true)
    {f_l_value : Addr} {od_l_value an_l_value : Option Addr} {sl_l_value : Array (Option Value)} {oc_l_value kV_l_value dc_l_value pm_l_value cd_l_value ct_l_value : Value}
    (a_l_value : PySem.W.nsIn K mainGlobals "_law_value" = some (some (.ref f_l_value)))
    (l_l_value : K.lookup f_l_value = some ⟨oc_l_value, od_l_value, .func (PySem.W.fnOf "_law_value" "_law_value" (defArgs s_l_value) (defBody s_l_value) (defScope s_l_value) .none kV_l_value dc_l_value pm_l_value an_l_value cd_l_value ct_l_value), sl_l_value⟩)
    (c_l_value : PySem.W.codeIn K cd_l_value "_law_value" = true)
    (k_l_value : PySem.W.keepIn K (.ref f_l_value) = true)
    {f_l_word_of : Addr} {od_l_word_of an_l_word_of : Option Addr} {sl_l_word_of : Array (Option Value)} {oc_l_word_of kV_l_word_of dc_l_word_of pm_l_word_of cd_l_word_of ct_l_word_of : Value}
    (a_l_word_of : PySem.W.nsIn K mainGlobals "_law_word_of" = some (some (.ref f_l_word_of)))
    (l_l_word_of : K.lookup f_l_word_of = some ⟨oc_l_word_of, od_l_word_of, .func (PySem.W.fnOf "_law_word_of" "_law_word_of" (defArgs s_l_word_of) (defBody s_l_word_of) (defScope s_l_word_of) .none kV_l_word_of dc_l_word_of pm_l_word_of an_l_word_of cd_l_word_of ct_l_word_of), sl_l_word_of⟩)
    (c_l_word_of : PySem.W.codeIn K cd_l_word_of "_law_word_of" = true)
    (k_l_word_of : PySem.W.keepIn K (.ref f_l_word_of) = true)
    {f_l_titles : Addr} {od_l_titles an_l_titles : Option Addr} {sl_l_titles : Array (Option Value)} {oc_l_titles kV_l_titles dc_l_titles pm_l_titles cd_l_titles ct_l_titles : Value}
    (a_l_titles : PySem.W.nsIn K mainGlobals "_law_titles" = some (some (.ref f_l_titles)))
    (l_l_titles : K.lookup f_l_titles = some ⟨oc_l_titles, od_l_titles, .func (PySem.W.fnOf "_law_titles" "_law_titles" (defArgs s_l_titles) (defBody s_l_titles) (defScope s_l_titles) .none kV_l_titles dc_l_titles pm_l_titles an_l_titles cd_l_titles ct_l_titles), sl_l_titles⟩)
    (c_l_titles : PySem.W.codeIn K cd_l_titles "_law_titles" = true)
    (k_l_titles : PySem.W.keepIn K (.ref f_l_titles) = true)
    {f_l_names : Addr} {od_l_names an_l_names : Option Addr} {sl_l_names : Array (Option Value)} {oc_l_names kV_l_names dc_l_names pm_l_names cd_l_names ct_l_names : Value}
    (a_l_names : PySem.W.nsIn K mainGlobals "_law_names" = some (some (.ref f_l_names)))
    (l_l_names : K.lookup f_l_names = some ⟨oc_l_names, od_l_names, .func (PySem.W.fnOf "_law_names" "_law_names" (defArgs s_l_names) (defBody s_l_names) (defScope s_l_names) .none kV_l_names dc_l_names pm_l_names an_l_names cd_l_names ct_l_names), sl_l_names⟩)
    (c_l_names : PySem.W.codeIn K cd_l_names "_law_names" = true)
    (k_l_names : PySem.W.keepIn K (.ref f_l_names) = true)
    {f_l_near_span : Addr} {od_l_near_span an_l_near_span : Option Addr} {sl_l_near_span : Array (Option Value)} {oc_l_near_span kV_l_near_span dc_l_near_span pm_l_near_span cd_l_near_span ct_l_near_span : Value}
    (a_l_near_span : PySem.W.nsIn K mainGlobals "_law_near_span" = some (some (.ref f_l_near_span)))
    (l_l_near_span : K.lookup f_l_near_span = some ⟨oc_l_near_span, od_l_near_span, .func (PySem.W.fnOf "_law_near_span" "_law_near_span" (defArgs s_l_near_span) (defBody s_l_near_span) (defScope s_l_near_span) .none kV_l_near_span dc_l_near_span pm_l_near_span an_l_near_span cd_l_near_span ct_l_near_span), sl_l_near_span⟩)
    (c_l_near_span : PySem.W.codeIn K cd_l_near_span "_law_near_span" = true)
    (k_l_near_span : PySem.W.keepIn K (.ref f_l_near_span) = true)
    {f_l_tree : Addr} {od_l_tree an_l_tree : Option Addr} {sl_l_tree : Array (Option Value)} {oc_l_tree kV_l_tree dc_l_tree pm_l_tree cd_l_tree ct_l_tree : Value}
    (a_l_tree : PySem.W.nsIn K mainGlobals "_law_tree" = some (some (.ref f_l_tree)))
    (l_l_tree : K.lookup f_l_tree = some ⟨oc_l_tree, od_l_tree, .func (PySem.W.fnOf "_law_tree" "_law_tree" (defArgs s_l_tree) (defBody s_l_tree) (defScope s_l_tree) .none kV_l_tree dc_l_tree pm_l_tree an_l_tree cd_l_tree ct_l_tree), sl_l_tree⟩)
    (c_l_tree : PySem.W.codeIn K cd_l_tree "_law_tree" = true)
    (k_l_tree : PySem.W.keepIn K (.ref f_l_tree) = true)
    {f_l_made : Addr} {od_l_made an_l_made : Option Addr} {sl_l_made : Array (Option Value)} {oc_l_made kV_l_made dc_l_made pm_l_made cd_l_made ct_l_made : Value}
    (a_l_made : PySem.W.nsIn K mainGlobals "_law_made" = some (some (.ref f_l_made)))
    (l_l_made : K.lookup f_l_made = some ⟨oc_l_made, od_l_made, .func (PySem.W.fnOf "_law_made" "_law_made" (defArgs s_l_made) (defBody s_l_made) (defScope s_l_made) .none kV_l_made dc_l_made pm_l_made an_l_made cd_l_made ct_l_made), sl_l_made⟩)
    (c_l_made : PySem.W.codeIn K cd_l_made "_law_made" = true)
    (k_l_made : PySem.W.keepIn K (.ref f_l_made) = true)
    {f_l_kinds : Addr} {od_l_kinds an_l_kinds : Option Addr} {sl_l_kinds : Array (Option Value)} {oc_l_kinds kV_l_kinds dc_l_kinds pm_l_kinds cd_l_kinds ct_l_kinds : Value}
    (a_l_kinds : PySem.W.nsIn K mainGlobals "_law_kinds" = some (some (.ref f_l_kinds)))
    (l_l_kinds : K.lookup f_l_kinds = some ⟨oc_l_kinds, od_l_kinds, .func (PySem.W.fnOf "_law_kinds" "_law_kinds" (defArgs s_l_kinds) (defBody s_l_kinds) (defScope s_l_kinds) .none kV_l_kinds dc_l_kinds pm_l_kinds an_l_kinds cd_l_kinds ct_l_kinds), sl_l_kinds⟩)
    (c_l_kinds : PySem.W.codeIn K cd_l_kinds "_law_kinds" = true)
    (k_l_kinds : PySem.W.keepIn K (.ref f_l_kinds) = true)
    {f_l_names_of : Addr} {od_l_names_of an_l_names_of : Option Addr} {sl_l_names_of : Array (Option Value)} {oc_l_names_of kV_l_names_of dc_l_names_of pm_l_names_of cd_l_names_of ct_l_names_of : Value}
    (a_l_names_of : PySem.W.nsIn K mainGlobals "_law_names_of" = some (some (.ref f_l_names_of)))
    (l_l_names_of : K.lookup f_l_names_of = some ⟨oc_l_names_of, od_l_names_of, .func (PySem.W.fnOf "_law_names_of" "_law_names_of" (defArgs s_l_names_of) (defBody s_l_names_of) (defScope s_l_names_of) .none kV_l_names_of dc_l_names_of pm_l_names_of an_l_names_of cd_l_names_of ct_l_names_of), sl_l_names_of⟩)
    (c_l_names_of : PySem.W.codeIn K cd_l_names_of "_law_names_of" = true)
    (k_l_names_of : PySem.W.keepIn K (.ref f_l_names_of) = true)
    {f_l_fields_right : Addr} {od_l_fields_right an_l_fields_right : Option Addr} {sl_l_fields_right : Array (Option Value)} {oc_l_fields_right kV_l_fields_right dc_l_fields_right pm_l_fields_right cd_l_fields_right ct_l_fields_right : Value}
    (a_l_fields_right : PySem.W.nsIn K mainGlobals "_law_fields_right" = some (some (.ref f_l_fields_right)))
    (l_l_fields_right : K.lookup f_l_fields_right = some ⟨oc_l_fields_right, od_l_fields_right, .func (PySem.W.fnOf "_law_fields_right" "_law_fields_right" (defArgs s_l_fields_right) (defBody s_l_fields_right) (defScope s_l_fields_right) .none kV_l_fields_right dc_l_fields_right pm_l_fields_right an_l_fields_right cd_l_fields_right ct_l_fields_right), sl_l_fields_right⟩)
    (c_l_fields_right : PySem.W.codeIn K cd_l_fields_right "_law_fields_right" = true)
    (k_l_fields_right : PySem.W.keepIn K (.ref f_l_fields_right) = true)
    {f_l_odd_name : Addr} {od_l_odd_name an_l_odd_name : Option Addr} {sl_l_odd_name : Array (Option Value)} {oc_l_odd_name kV_l_odd_name dc_l_odd_name pm_l_odd_name cd_l_odd_name ct_l_odd_name : Value}
    (a_l_odd_name : PySem.W.nsIn K mainGlobals "_law_odd_name" = some (some (.ref f_l_odd_name)))
    (l_l_odd_name : K.lookup f_l_odd_name = some ⟨oc_l_odd_name, od_l_odd_name, .func (PySem.W.fnOf "_law_odd_name" "_law_odd_name" (defArgs s_l_odd_name) (defBody s_l_odd_name) (defScope s_l_odd_name) .none kV_l_odd_name dc_l_odd_name pm_l_odd_name an_l_odd_name cd_l_odd_name ct_l_odd_name), sl_l_odd_name⟩)
    (c_l_odd_name : PySem.W.codeIn K cd_l_odd_name "_law_odd_name" = true)
    (k_l_odd_name : PySem.W.keepIn K (.ref f_l_odd_name) = true)
    {f_l_is_name : Addr} {od_l_is_name an_l_is_name : Option Addr} {sl_l_is_name : Array (Option Value)} {oc_l_is_name kV_l_is_name dc_l_is_name pm_l_is_name cd_l_is_name ct_l_is_name : Value}
    (a_l_is_name : PySem.W.nsIn K mainGlobals "_law_is_name" = some (some (.ref f_l_is_name)))
    (l_l_is_name : K.lookup f_l_is_name = some ⟨oc_l_is_name, od_l_is_name, .func (PySem.W.fnOf "_law_is_name" "_law_is_name" (defArgs s_l_is_name) (defBody s_l_is_name) (defScope s_l_is_name) .none kV_l_is_name dc_l_is_name pm_l_is_name an_l_is_name cd_l_is_name ct_l_is_name), sl_l_is_name⟩)
    (c_l_is_name : PySem.W.codeIn K cd_l_is_name "_law_is_name" = true)
    (k_l_is_name : PySem.W.keepIn K (.ref f_l_is_name) = true)
    {f_l_wrong : Addr} {od_l_wrong an_l_wrong : Option Addr} {sl_l_wrong : Array (Option Value)} {oc_l_wrong kV_l_wrong dc_l_wrong pm_l_wrong cd_l_wrong ct_l_wrong : Value}
    (a_l_wrong : PySem.W.nsIn K mainGlobals "_law_wrong" = some (some (.ref f_l_wrong)))
    (l_l_wrong : K.lookup f_l_wrong = some ⟨oc_l_wrong, od_l_wrong, .func (PySem.W.fnOf "_law_wrong" "_law_wrong" (defArgs s_l_wrong) (defBody s_l_wrong) (defScope s_l_wrong) .none kV_l_wrong dc_l_wrong pm_l_wrong an_l_wrong cd_l_wrong ct_l_wrong), sl_l_wrong⟩)
    (c_l_wrong : PySem.W.codeIn K cd_l_wrong "_law_wrong" = true)
    (k_l_wrong : PySem.W.keepIn K (.ref f_l_wrong) = true)
    {f_l_deep_tree : Addr} {od_l_deep_tree an_l_deep_tree : Option Addr} {sl_l_deep_tree : Array (Option Value)} {oc_l_deep_tree kV_l_deep_tree dc_l_deep_tree pm_l_deep_tree cd_l_deep_tree ct_l_deep_tree : Value}
    (a_l_deep_tree : PySem.W.nsIn K mainGlobals "_law_deep_tree" = some (some (.ref f_l_deep_tree)))
    (l_l_deep_tree : K.lookup f_l_deep_tree = some ⟨oc_l_deep_tree, od_l_deep_tree, .func (PySem.W.fnOf "_law_deep_tree" "_law_deep_tree" (defArgs s_l_deep_tree) (defBody s_l_deep_tree) (defScope s_l_deep_tree) .none kV_l_deep_tree dc_l_deep_tree pm_l_deep_tree an_l_deep_tree cd_l_deep_tree ct_l_deep_tree), sl_l_deep_tree⟩)
    (c_l_deep_tree : PySem.W.codeIn K cd_l_deep_tree "_law_deep_tree" = true)
    (k_l_deep_tree : PySem.W.keepIn K (.ref f_l_deep_tree) = true)
    {f_l_twice_right : Addr} {od_l_twice_right an_l_twice_right : Option Addr} {sl_l_twice_right : Array (Option Value)} {oc_l_twice_right kV_l_twice_right dc_l_twice_right pm_l_twice_right cd_l_twice_right ct_l_twice_right : Value}
    (a_l_twice_right : PySem.W.nsIn K mainGlobals "_law_twice_right" = some (some (.ref f_l_twice_right)))
    (l_l_twice_right : K.lookup f_l_twice_right = some ⟨oc_l_twice_right, od_l_twice_right, .func (PySem.W.fnOf "_law_twice_right" "_law_twice_right" (defArgs s_l_twice_right) (defBody s_l_twice_right) (defScope s_l_twice_right) .none kV_l_twice_right dc_l_twice_right pm_l_twice_right an_l_twice_right cd_l_twice_right ct_l_twice_right), sl_l_twice_right⟩)
    (c_l_twice_right : PySem.W.codeIn K cd_l_twice_right "_law_twice_right" = true)
    (k_l_twice_right : PySem.W.keepIn K (.ref f_l_twice_right) = true)
    {f_law : Addr} {od_law an_law : Option Addr} {sl_law : Array (Option Value)} {oc_law kV_law dc_law pm_law cd_law ct_law : Value}
    (a_law : PySem.W.nsIn K mainGlobals "law" = some (some (.ref f_law)))
    (l_law : K.lookup f_law = some ⟨oc_law, od_law, .func (PySem.W.fnOf "law" "law" (defArgs s_law) (defBody s_law) (defScope s_law) .none kV_law dc_law pm_law an_law cd_law ct_law), sl_law⟩)
    (c_law : PySem.W.codeIn K cd_law "law" = true)
    (k_law : PySem.W.keepIn K (.ref f_law) = true)
    (z_ValueError : PySem.W.nsIn K mainGlobals "ValueError" = some none)
    (z_all : PySem.W.nsIn K mainGlobals "all" = some none)
    (z_bool : PySem.W.nsIn K mainGlobals "bool" = some none)
    (z_int : PySem.W.nsIn K mainGlobals "int" = some none)
    (z_isinstance : PySem.W.nsIn K mainGlobals "isinstance" = some none)
    (z_len : PySem.W.nsIn K mainGlobals "len" = some none)
    (z_min : PySem.W.nsIn K mainGlobals "min" = some none)
    (z_range : PySem.W.nsIn K mainGlobals "range" = some none)
    (z_set : PySem.W.nsIn K mainGlobals "set" = some none)
    (z_sorted : PySem.W.nsIn K mainGlobals "sorted" = some none)
    (z_str : PySem.W.nsIn K mainGlobals "str" = some none)
    (z_tuple : PySem.W.nsIn K mainGlobals "tuple" = some none)
    {tk_MOST_LETTERS : Tok}
    (z_MOST_LETTERS : PySem.W.nsIn K mainGlobals "MOST_LETTERS" = some (some (.int 8 tk_MOST_LETTERS)))
    {tk_SMALL : Tok}
    (z_SMALL : PySem.W.nsIn K mainGlobals "SMALL" = some (some (.str "abcdefghijklmnopqrstuvwxyz" tk_SMALL)))
    {kt_OWN_WORDS : Addr} {ko_OWN_WORDS : Obj}
    (z_OWN_WORDS : PySem.W.nsIn K mainGlobals "OWN_WORDS" = some (some (.ref kt_OWN_WORDS)))
    (kl_OWN_WORDS : K.lookup kt_OWN_WORDS = some ko_OWN_WORDS)
    (km_OWN_WORDS : TupObj ko_OWN_WORDS ["flat", "only", "shifted", "flipped"])
    (gcn : PySem.W.specialIn K (.builtin "object.__class__") "__get__" = some (some (.builtin "getset_descriptor.__get__")))
    (gct : PySem.W.takesIn K (.builtin "object.__class__") = some true)
    (xi_NoTree : PySem.W.excIn K c_NoTree [.type "ValueError", .type "Exception", .type "BaseException", .type "object"] "ValueError.__new__" = true)
    (kp_NoTree : PySem.W.keepIn K (.ref c_NoTree) = true)
    (xb_NoTree : PySem.W.subIn K (.ref c_NoTree) (.type "BaseException") = some true)
    (ty_NoTree : PySem.W.typeIn K (.ref c_NoTree) = some (.type "type"))
    (eg_NoTree : PySem.W.findIn K (.ref c_NoTree) "__getattribute__" = some (some (.builtin "BaseException.__getattribute__")))
    (ek_NoTree : PySem.W.findIn K (.ref c_NoTree) "__getattr__" = some none)
    (hd_NoTree : PySem.W.hasDictIn K c_NoTree = true)
    (ec_NoTree : PySem.W.findIn K (.ref c_NoTree) "__class__" = some (some (.builtin "object.__class__")))
    (em_NoTree : PySem.W.mroIn K c_NoTree (.type "object") = some true)
    (xb_FarError : PySem.W.subIn K (.ref c_FarError) (.type "BaseException") = some true)
    (hd_FarError : PySem.W.hasDictIn K c_FarError = true)
    (ty_FarError : PySem.W.typeIn K (.ref c_FarError) = some (.type "type"))
    (sb_NoTree_FarError : PySem.W.subIn K (.ref c_NoTree) (.ref c_FarError) = some true)
    (ic_NoSpan : PySem.W.isClsIn K c_NoSpan = true)
    (ty_NoSpan : PySem.W.typeIn K (.ref c_NoSpan) = some (.type "type"))
    (sb_NoSpan_NoSpan : PySem.W.subIn K (.ref c_NoSpan) (.ref c_NoSpan) = some true)
    (sb_NoTree_NoSpan : PySem.W.subIn K (.ref c_NoTree) (.ref c_NoSpan) = some false)
    (ic_NoValue : PySem.W.isClsIn K c_NoValue = true)
    (ty_NoValue : PySem.W.typeIn K (.ref c_NoValue) = some (.type "type"))
    (sb_NoValue_NoValue : PySem.W.subIn K (.ref c_NoValue) (.ref c_NoValue) = some true)
    (sb_NoTree_NoValue : PySem.W.subIn K (.ref c_NoTree) (.ref c_NoValue) = some false)
    (ic_NoPlace : PySem.W.isClsIn K c_NoPlace = true)
    (ty_NoPlace : PySem.W.typeIn K (.ref c_NoPlace) = some (.type "type"))
    (sb_NoPlace_NoPlace : PySem.W.subIn K (.ref c_NoPlace) (.ref c_NoPlace) = some true)
    (sb_NoTree_NoPlace : PySem.W.subIn K (.ref c_NoTree) (.ref c_NoPlace) = some false)
    (ic_NoState : PySem.W.isClsIn K c_NoState = true)
    (ty_NoState : PySem.W.typeIn K (.ref c_NoState) = some (.type "type"))
    (sb_NoState_NoState : PySem.W.subIn K (.ref c_NoState) (.ref c_NoState) = some true)
    (sb_NoTree_NoState : PySem.W.subIn K (.ref c_NoTree) (.ref c_NoState) = some false)
    (ic_NoVersion : PySem.W.isClsIn K c_NoVersion = true)
    (ty_NoVersion : PySem.W.typeIn K (.ref c_NoVersion) = some (.type "type"))
    (sb_NoVersion_NoVersion : PySem.W.subIn K (.ref c_NoVersion) (.ref c_NoVersion) = some true)
    (sb_NoTree_NoVersion : PySem.W.subIn K (.ref c_NoTree) (.ref c_NoVersion) = some false)
    (ic_NoCount : PySem.W.isClsIn K c_NoCount = true)
    (ty_NoCount : PySem.W.typeIn K (.ref c_NoCount) = some (.type "type"))
    (sb_NoCount_NoCount : PySem.W.subIn K (.ref c_NoCount) (.ref c_NoCount) = some true)
    (sb_NoTree_NoCount : PySem.W.subIn K (.ref c_NoTree) (.ref c_NoCount) = some false)
    (ic_NoRow : PySem.W.isClsIn K c_NoRow = true)
    (ty_NoRow : PySem.W.typeIn K (.ref c_NoRow) = some (.type "type"))
    (sb_NoRow_NoRow : PySem.W.subIn K (.ref c_NoRow) (.ref c_NoRow) = some true)
    (sb_NoTree_NoRow : PySem.W.subIn K (.ref c_NoTree) (.ref c_NoRow) = some false)
    (ic_NoWord : PySem.W.isClsIn K c_NoWord = true)
    (ty_NoWord : PySem.W.typeIn K (.ref c_NoWord) = some (.type "type"))
    (sb_NoWord_NoWord : PySem.W.subIn K (.ref c_NoWord) (.ref c_NoWord) = some true)
    (sb_NoTree_NoWord : PySem.W.subIn K (.ref c_NoTree) (.ref c_NoWord) = some false)
    (ic_NoName : PySem.W.isClsIn K c_NoName = true)
    (ty_NoName : PySem.W.typeIn K (.ref c_NoName) = some (.type "type"))
    (sb_NoName_NoName : PySem.W.subIn K (.ref c_NoName) (.ref c_NoName) = some true)
    (sb_NoTree_NoName : PySem.W.subIn K (.ref c_NoTree) (.ref c_NoName) = some false)
    (ic_NoTree : PySem.W.isClsIn K c_NoTree = true)
    (sb_NoTree_NoTree : PySem.W.subIn K (.ref c_NoTree) (.ref c_NoTree) = some true)
    (ic_TooMany : PySem.W.isClsIn K c_TooMany = true)
    (ty_TooMany : PySem.W.typeIn K (.ref c_TooMany) = some (.type "type"))
    (sb_TooMany_TooMany : PySem.W.subIn K (.ref c_TooMany) (.ref c_TooMany) = some true)
    (sb_NoTree_TooMany : PySem.W.subIn K (.ref c_NoTree) (.ref c_TooMany) = some false)
    (ic_NoText : PySem.W.isClsIn K c_NoText = true)
    (ty_NoText : PySem.W.typeIn K (.ref c_NoText) = some (.type "type"))
    (sb_NoText_NoText : PySem.W.subIn K (.ref c_NoText) (.ref c_NoText) = some true)
    (sb_NoTree_NoText : PySem.W.subIn K (.ref c_NoTree) (.ref c_NoText) = some false)
    (ic_NoWheel : PySem.W.isClsIn K c_NoWheel = true)
    (ty_NoWheel : PySem.W.typeIn K (.ref c_NoWheel) = some (.type "type"))
    (sb_NoWheel_NoWheel : PySem.W.subIn K (.ref c_NoWheel) (.ref c_NoWheel) = some true)
    (sb_NoTree_NoWheel : PySem.W.subIn K (.ref c_NoTree) (.ref c_NoWheel) = some false)
    (ic_NoWalker : PySem.W.isClsIn K c_NoWalker = true)
    (ty_NoWalker : PySem.W.typeIn K (.ref c_NoWalker) = some (.type "type"))
    (sb_NoWalker_NoWalker : PySem.W.subIn K (.ref c_NoWalker) (.ref c_NoWalker) = some true)
    (sb_NoTree_NoWalker : PySem.W.subIn K (.ref c_NoTree) (.ref c_NoWalker) = some false)
    (sv_NoTree_ValueError : PySem.W.subIn K (.ref c_NoTree) (.type "ValueError") = some true)
    (pg_Rule : PySem.W.plainGet K c_Rule Str.empty = true)
    (hd_Rule : PySem.W.hasDictIn K c_Rule = true)
    (po_Rule : PySem.W.plainOver K c_Rule = true)
    (sa_Rule : PySem.W.findIn K (.ref c_Rule) "__setattr__" = some (some (.builtin "object.__setattr__")))
    (ec_Rule : PySem.W.findIn K (.ref c_Rule) "__class__" = some (some (.builtin "object.__class__")))
    (em_Rule : PySem.W.mroIn K c_Rule (.type "object") = some true)
    (ic_Tree : PySem.W.isClsIn K c_Tree = true)
    (ty_Tree : PySem.W.typeIn K (.ref c_Tree) = some (.type "type"))
    (sb_Tree_Tree : PySem.W.subIn K (.ref c_Tree) (.ref c_Tree) = some true)
    (sb_Rule_Tree : PySem.W.subIn K (.ref c_Rule) (.ref c_Tree) = some false)
    (pg_Over : PySem.W.plainGet K c_Over Str.empty = true)
    (hd_Over : PySem.W.hasDictIn K c_Over = true)
    (po_Over : PySem.W.plainOver K c_Over = true)
    (sa_Over : PySem.W.findIn K (.ref c_Over) "__setattr__" = some (some (.builtin "object.__setattr__")))
    (ec_Over : PySem.W.findIn K (.ref c_Over) "__class__" = some (some (.builtin "object.__class__")))
    (em_Over : PySem.W.mroIn K c_Over (.type "object") = some true)
    (sb_Over_Tree : PySem.W.subIn K (.ref c_Over) (.ref c_Tree) = some false)
    (pg_Where : PySem.W.plainGet K c_Where Str.empty = true)
    (hd_Where : PySem.W.hasDictIn K c_Where = true)
    (po_Where : PySem.W.plainOver K c_Where = true)
    (sa_Where : PySem.W.findIn K (.ref c_Where) "__setattr__" = some (some (.builtin "object.__setattr__")))
    (ec_Where : PySem.W.findIn K (.ref c_Where) "__class__" = some (some (.builtin "object.__class__")))
    (em_Where : PySem.W.mroIn K c_Where (.type "object") = some true)
    (sb_Where_Tree : PySem.W.subIn K (.ref c_Where) (.ref c_Tree) = some false)
    (pg_Without : PySem.W.plainGet K c_Without Str.empty = true)
    (hd_Without : PySem.W.hasDictIn K c_Without = true)
    (po_Without : PySem.W.plainOver K c_Without = true)
    (sa_Without : PySem.W.findIn K (.ref c_Without) "__setattr__" = some (some (.builtin "object.__setattr__")))
    (ec_Without : PySem.W.findIn K (.ref c_Without) "__class__" = some (some (.builtin "object.__class__")))
    (em_Without : PySem.W.mroIn K c_Without (.type "object") = some true)
    (sb_Without_Tree : PySem.W.subIn K (.ref c_Without) (.ref c_Tree) = some false)
    (pg_Sum : PySem.W.plainGet K c_Sum Str.empty = true)
    (hd_Sum : PySem.W.hasDictIn K c_Sum = true)
    (po_Sum : PySem.W.plainOver K c_Sum = true)
    (sa_Sum : PySem.W.findIn K (.ref c_Sum) "__setattr__" = some (some (.builtin "object.__setattr__")))
    (ec_Sum : PySem.W.findIn K (.ref c_Sum) "__class__" = some (some (.builtin "object.__class__")))
    (em_Sum : PySem.W.mroIn K c_Sum (.type "object") = some true)
    (sb_Sum_Tree : PySem.W.subIn K (.ref c_Sum) (.ref c_Tree) = some false)
    (pg_Less : PySem.W.plainGet K c_Less Str.empty = true)
    (hd_Less : PySem.W.hasDictIn K c_Less = true)
    (po_Less : PySem.W.plainOver K c_Less = true)
    (sa_Less : PySem.W.findIn K (.ref c_Less) "__setattr__" = some (some (.builtin "object.__setattr__")))
    (ec_Less : PySem.W.findIn K (.ref c_Less) "__class__" = some (some (.builtin "object.__class__")))
    (em_Less : PySem.W.mroIn K c_Less (.type "object") = some true)
    (sb_Less_Tree : PySem.W.subIn K (.ref c_Less) (.ref c_Tree) = some false)
    (pg_Least : PySem.W.plainGet K c_Least Str.empty = true)
    (hd_Least : PySem.W.hasDictIn K c_Least = true)
    (po_Least : PySem.W.plainOver K c_Least = true)
    (sa_Least : PySem.W.findIn K (.ref c_Least) "__setattr__" = some (some (.builtin "object.__setattr__")))
    (ec_Least : PySem.W.findIn K (.ref c_Least) "__class__" = some (some (.builtin "object.__class__")))
    (em_Least : PySem.W.mroIn K c_Least (.type "object") = some true)
    (sb_Least_Tree : PySem.W.subIn K (.ref c_Least) (.ref c_Tree) = some false)
    (pg_Greatest : PySem.W.plainGet K c_Greatest Str.empty = true)
    (hd_Greatest : PySem.W.hasDictIn K c_Greatest = true)
    (po_Greatest : PySem.W.plainOver K c_Greatest = true)
    (sa_Greatest : PySem.W.findIn K (.ref c_Greatest) "__setattr__" = some (some (.builtin "object.__setattr__")))
    (ec_Greatest : PySem.W.findIn K (.ref c_Greatest) "__class__" = some (some (.builtin "object.__class__")))
    (em_Greatest : PySem.W.mroIn K c_Greatest (.type "object") = some true)
    (sb_Greatest_Tree : PySem.W.subIn K (.ref c_Greatest) (.ref c_Tree) = some false)
    (pg_Same : PySem.W.plainGet K c_Same Str.empty = true)
    (hd_Same : PySem.W.hasDictIn K c_Same = true)
    (po_Same : PySem.W.plainOver K c_Same = true)
    (sa_Same : PySem.W.findIn K (.ref c_Same) "__setattr__" = some (some (.builtin "object.__setattr__")))
    (ec_Same : PySem.W.findIn K (.ref c_Same) "__class__" = some (some (.builtin "object.__class__")))
    (em_Same : PySem.W.mroIn K c_Same (.type "object") = some true)
    (sb_Same_Tree : PySem.W.subIn K (.ref c_Same) (.ref c_Tree) = some false)
    (pg_Tree : PySem.W.plainGet K c_Tree Str.empty = true)
    (hd_Tree : PySem.W.hasDictIn K c_Tree = true)
    (po_Tree : PySem.W.plainOver K c_Tree = true)
    (sa_Tree : PySem.W.findIn K (.ref c_Tree) "__setattr__" = some (some (.builtin "object.__setattr__")))
    (ec_Tree : PySem.W.findIn K (.ref c_Tree) "__class__" = some (some (.builtin "object.__class__")))
    (em_Tree : PySem.W.mroIn K c_Tree (.type "object") = some true)
    (pg_Named : PySem.W.plainGet K c_Named Str.empty = true)
    (hd_Named : PySem.W.hasDictIn K c_Named = true)
    (po_Named : PySem.W.plainOver K c_Named = true)
    (sa_Named : PySem.W.findIn K (.ref c_Named) "__setattr__" = some (some (.builtin "object.__setattr__")))
    (ec_Named : PySem.W.findIn K (.ref c_Named) "__class__" = some (some (.builtin "object.__class__")))
    (em_Named : PySem.W.mroIn K c_Named (.type "object") = some true)
    (na_Named_name : PySem.W.findIn K (.ref c_Named) "name" = some none)
    (sb_Named_Tree : PySem.W.subIn K (.ref c_Named) (.ref c_Tree) = some true)
    (pg_Flat : PySem.W.plainGet K c_Flat Str.empty = true)
    (hd_Flat : PySem.W.hasDictIn K c_Flat = true)
    (po_Flat : PySem.W.plainOver K c_Flat = true)
    (sa_Flat : PySem.W.findIn K (.ref c_Flat) "__setattr__" = some (some (.builtin "object.__setattr__")))
    (ec_Flat : PySem.W.findIn K (.ref c_Flat) "__class__" = some (some (.builtin "object.__class__")))
    (em_Flat : PySem.W.mroIn K c_Flat (.type "object") = some true)
    (na_Flat_value : PySem.W.findIn K (.ref c_Flat) "value" = some none)
    (sb_Flat_Tree : PySem.W.subIn K (.ref c_Flat) (.ref c_Tree) = some true)
    (pg_Only : PySem.W.plainGet K c_Only Str.empty = true)
    (hd_Only : PySem.W.hasDictIn K c_Only = true)
    (po_Only : PySem.W.plainOver K c_Only = true)
    (sa_Only : PySem.W.findIn K (.ref c_Only) "__setattr__" = some (some (.builtin "object.__setattr__")))
    (ec_Only : PySem.W.findIn K (.ref c_Only) "__class__" = some (some (.builtin "object.__class__")))
    (em_Only : PySem.W.mroIn K c_Only (.type "object") = some true)
    (na_Only_tree : PySem.W.findIn K (.ref c_Only) "tree" = some none)
    (na_Only_span : PySem.W.findIn K (.ref c_Only) "span" = some none)
    (sb_Only_Tree : PySem.W.subIn K (.ref c_Only) (.ref c_Tree) = some true)
    (pg_Shifted : PySem.W.plainGet K c_Shifted Str.empty = true)
    (hd_Shifted : PySem.W.hasDictIn K c_Shifted = true)
    (po_Shifted : PySem.W.plainOver K c_Shifted = true)
    (sa_Shifted : PySem.W.findIn K (.ref c_Shifted) "__setattr__" = some (some (.builtin "object.__setattr__")))
    (ec_Shifted : PySem.W.findIn K (.ref c_Shifted) "__class__" = some (some (.builtin "object.__class__")))
    (em_Shifted : PySem.W.mroIn K c_Shifted (.type "object") = some true)
    (na_Shifted_tree : PySem.W.findIn K (.ref c_Shifted) "tree" = some none)
    (na_Shifted_by : PySem.W.findIn K (.ref c_Shifted) "by" = some none)
    (sb_Shifted_Tree : PySem.W.subIn K (.ref c_Shifted) (.ref c_Tree) = some true)
    (pg_Flipped : PySem.W.plainGet K c_Flipped Str.empty = true)
    (hd_Flipped : PySem.W.hasDictIn K c_Flipped = true)
    (po_Flipped : PySem.W.plainOver K c_Flipped = true)
    (sa_Flipped : PySem.W.findIn K (.ref c_Flipped) "__setattr__" = some (some (.builtin "object.__setattr__")))
    (ec_Flipped : PySem.W.findIn K (.ref c_Flipped) "__class__" = some (some (.builtin "object.__class__")))
    (em_Flipped : PySem.W.mroIn K c_Flipped (.type "object") = some true)
    (na_Flipped_tree : PySem.W.findIn K (.ref c_Flipped) "tree" = some none)
    (na_Flipped_about : PySem.W.findIn K (.ref c_Flipped) "about" = some none)
    (sb_Flipped_Tree : PySem.W.subIn K (.ref c_Flipped) (.ref c_Tree) = some true)
    (pg_Joint : PySem.W.plainGet K c_Joint Str.empty = true)
    (hd_Joint : PySem.W.hasDictIn K c_Joint = true)
    (po_Joint : PySem.W.plainOver K c_Joint = true)
    (sa_Joint : PySem.W.findIn K (.ref c_Joint) "__setattr__" = some (some (.builtin "object.__setattr__")))
    (ec_Joint : PySem.W.findIn K (.ref c_Joint) "__class__" = some (some (.builtin "object.__class__")))
    (em_Joint : PySem.W.mroIn K c_Joint (.type "object") = some true)
    (na_Joint_title : PySem.W.findIn K (.ref c_Joint) "title" = some none)
    (na_Joint_one : PySem.W.findIn K (.ref c_Joint) "one" = some none)
    (na_Joint_other : PySem.W.findIn K (.ref c_Joint) "other" = some none)
    (sb_Joint_Tree : PySem.W.subIn K (.ref c_Joint) (.ref c_Tree) = some true)
    (st_NoneType_Tree : PySem.W.subIn K (.type "NoneType") (.ref c_Tree) = some false)
    (st_str_Tree : PySem.W.subIn K (.type "str") (.ref c_Tree) = some false)
    (st_int_Tree : PySem.W.subIn K (.type "int") (.ref c_Tree) = some false)
    (st_tuple_Tree : PySem.W.subIn K (.type "tuple") (.ref c_Tree) = some false)
    (st_list_Tree : PySem.W.subIn K (.type "list") (.ref c_Tree) = some false)
    (st_dict_Tree : PySem.W.subIn K (.type "dict") (.ref c_Tree) = some false)
    (st_bool_Tree : PySem.W.subIn K (.type "bool") (.ref c_Tree) = some false)
    (mk_Flat : PySem.W.makesIn K c_Flat = true)
    (kp_Flat : PySem.W.keepIn K (.ref c_Flat) = true)
    (mk_Flipped : PySem.W.makesIn K c_Flipped = true)
    (kp_Flipped : PySem.W.keepIn K (.ref c_Flipped) = true)
    (mk_Joint : PySem.W.makesIn K c_Joint = true)
    (kp_Joint : PySem.W.keepIn K (.ref c_Joint) = true)
    (mk_Named : PySem.W.makesIn K c_Named = true)
    (kp_Named : PySem.W.keepIn K (.ref c_Named) = true)
    (mk_Only : PySem.W.makesIn K c_Only = true)
    (kp_Only : PySem.W.keepIn K (.ref c_Only) = true)
    (mk_Shifted : PySem.W.makesIn K c_Shifted = true)
    (kp_Shifted : PySem.W.keepIn K (.ref c_Shifted) = true)
    (mk_Greatest : PySem.W.makesIn K c_Greatest = true)
    (kp_Greatest : PySem.W.keepIn K (.ref c_Greatest) = true)
    (io_Greatest : PySem.W.findIn K (.ref c_Greatest) "__init__" = some (some (.builtin "object.__init__")))
    (mk_Least : PySem.W.makesIn K c_Least = true)
    (kp_Least : PySem.W.keepIn K (.ref c_Least) = true)
    (io_Least : PySem.W.findIn K (.ref c_Least) "__init__" = some (some (.builtin "object.__init__")))
    (mk_Less : PySem.W.makesIn K c_Less = true)
    (kp_Less : PySem.W.keepIn K (.ref c_Less) = true)
    (io_Less : PySem.W.findIn K (.ref c_Less) "__init__" = some (some (.builtin "object.__init__")))
    (mk_Over : PySem.W.makesIn K c_Over = true)
    (kp_Over : PySem.W.keepIn K (.ref c_Over) = true)
    (io_Over : PySem.W.findIn K (.ref c_Over) "__init__" = some (some (.builtin "object.__init__")))
    (mk_Same : PySem.W.makesIn K c_Same = true)
    (kp_Same : PySem.W.keepIn K (.ref c_Same) = true)
    (io_Same : PySem.W.findIn K (.ref c_Same) "__init__" = some (some (.builtin "object.__init__")))
    (mk_Sum : PySem.W.makesIn K c_Sum = true)
    (kp_Sum : PySem.W.keepIn K (.ref c_Sum) = true)
    (io_Sum : PySem.W.findIn K (.ref c_Sum) "__init__" = some (some (.builtin "object.__init__")))
    (mk_Where : PySem.W.makesIn K c_Where = true)
    (kp_Where : PySem.W.keepIn K (.ref c_Where) = true)
    (io_Where : PySem.W.findIn K (.ref c_Where) "__init__" = some (some (.builtin "object.__init__")))
    (mk_Without : PySem.W.makesIn K c_Without = true)
    (kp_Without : PySem.W.keepIn K (.ref c_Without) = true)
    (io_Without : PySem.W.findIn K (.ref c_Without) "__init__" = some (some (.builtin "object.__init__")))
    (ai_Flat_limbs : PySem.W.findIn K (.ref c_Flat) "limbs" = some (some (.ref f_Tree_limbs)))
    (ai_Flat_own_names : PySem.W.findIn K (.ref c_Flat) "own_names" = some (some (.ref f_Tree_own_names)))
    (ai_Flipped_own_names : PySem.W.findIn K (.ref c_Flipped) "own_names" = some (some (.ref f_Tree_own_names)))
    (ai_Joint_own_names : PySem.W.findIn K (.ref c_Joint) "own_names" = some (some (.ref f_Tree_own_names)))
    (ai_Named_limbs : PySem.W.findIn K (.ref c_Named) "limbs" = some (some (.ref f_Tree_limbs)))
    (ai_Only_own_names : PySem.W.findIn K (.ref c_Only) "own_names" = some (some (.ref f_Tree_own_names)))
    (ai_Shifted_own_names : PySem.W.findIn K (.ref c_Shifted) "own_names" = some (some (.ref f_Tree_own_names)))
    (hnd : List.Nodup ([c_FarError, c_NoSpan, c_NoValue, c_NoPlace, c_NoCount, c_NoWheel, c_NoRow, c_NoWord, c_NoWalker, c_NoState, c_NoName, c_NoVersion, c_NoTree, c_TooMany, c_NoText, c_Rule, c_Over, c_Where, c_Without, c_Sum, c_Less, c_Least, c_Greatest, c_Same, c_Tree, c_Named, c_Flat, c_Only, c_Shifted, c_Flipped, c_Joint, kt_OWN_WORDS] : List Addr))
    : ∃ fd : FuncData, (∀ (s : Shared) (v : Value), BindsTo s fd ⟨[v], []⟩ [("_law_script", v)]) ∧ ∀ base : Heap, K.In base → base.Ns mainGlobals mg → FnOk l.prog w K mg base CX0 20 fa fd ["_law_script"] (spD K R_law) := by
  have e := hfa.symm.trans (PySem.W.mg_of X G a_law)
  cases e
  let T : Txt K mg (Zs.of [c_FarError, c_NoSpan, c_NoValue, c_NoPlace, c_NoCount, c_NoWheel, c_NoRow, c_NoWord, c_NoWalker, c_NoState, c_NoName, c_NoVersion, c_NoTree, c_TooMany, c_NoText, c_Rule, c_Over, c_Where, c_Without, c_Sum, c_Less, c_Least, c_Greatest, c_Same, c_Tree, c_Named, c_Flat, c_Only, c_Shifted, c_Flipped, c_Joint, kt_OWN_WORDS] hnd) := {
    a_Rule_rule_word := _, d_Rule_rule_word := _, F_Rule_rule_word := fun_mk (st := s_Rule_rule_word) l_Rule_rule_word c_Rule_rule_word k_Rule_rule_word, b_Rule_rule_word := (fun_mk (st := s_Rule_rule_word) l_Rule_rule_word c_Rule_rule_word k_Rule_rule_word).binds (fun _ _ _ _ _ _ us hl => match us, hl with | [_], _ => rfl),
    a_Over_rule_word := _, d_Over_rule_word := _, F_Over_rule_word := fun_mk (st := s_Over_rule_word) l_Over_rule_word c_Over_rule_word k_Over_rule_word, b_Over_rule_word := (fun_mk (st := s_Over_rule_word) l_Over_rule_word c_Over_rule_word k_Over_rule_word).binds (fun _ _ _ _ _ _ us hl => match us, hl with | [_], _ => rfl),
    a_Where_rule_word := _, d_Where_rule_word := _, F_Where_rule_word := fun_mk (st := s_Where_rule_word) l_Where_rule_word c_Where_rule_word k_Where_rule_word, b_Where_rule_word := (fun_mk (st := s_Where_rule_word) l_Where_rule_word c_Where_rule_word k_Where_rule_word).binds (fun _ _ _ _ _ _ us hl => match us, hl with | [_], _ => rfl),
    a_Without_rule_word := _, d_Without_rule_word := _, F_Without_rule_word := fun_mk (st := s_Without_rule_word) l_Without_rule_word c_Without_rule_word k_Without_rule_word, b_Without_rule_word := (fun_mk (st := s_Without_rule_word) l_Without_rule_word c_Without_rule_word k_Without_rule_word).binds (fun _ _ _ _ _ _ us hl => match us, hl with | [_], _ => rfl),
    a_Sum_rule_word := _, d_Sum_rule_word := _, F_Sum_rule_word := fun_mk (st := s_Sum_rule_word) l_Sum_rule_word c_Sum_rule_word k_Sum_rule_word, b_Sum_rule_word := (fun_mk (st := s_Sum_rule_word) l_Sum_rule_word c_Sum_rule_word k_Sum_rule_word).binds (fun _ _ _ _ _ _ us hl => match us, hl with | [_], _ => rfl),
    a_Less_rule_word := _, d_Less_rule_word := _, F_Less_rule_word := fun_mk (st := s_Less_rule_word) l_Less_rule_word c_Less_rule_word k_Less_rule_word, b_Less_rule_word := (fun_mk (st := s_Less_rule_word) l_Less_rule_word c_Less_rule_word k_Less_rule_word).binds (fun _ _ _ _ _ _ us hl => match us, hl with | [_], _ => rfl),
    a_Least_rule_word := _, d_Least_rule_word := _, F_Least_rule_word := fun_mk (st := s_Least_rule_word) l_Least_rule_word c_Least_rule_word k_Least_rule_word, b_Least_rule_word := (fun_mk (st := s_Least_rule_word) l_Least_rule_word c_Least_rule_word k_Least_rule_word).binds (fun _ _ _ _ _ _ us hl => match us, hl with | [_], _ => rfl),
    a_Greatest_rule_word := _, d_Greatest_rule_word := _, F_Greatest_rule_word := fun_mk (st := s_Greatest_rule_word) l_Greatest_rule_word c_Greatest_rule_word k_Greatest_rule_word, b_Greatest_rule_word := (fun_mk (st := s_Greatest_rule_word) l_Greatest_rule_word c_Greatest_rule_word k_Greatest_rule_word).binds (fun _ _ _ _ _ _ us hl => match us, hl with | [_], _ => rfl),
    a_Same_rule_word := _, d_Same_rule_word := _, F_Same_rule_word := fun_mk (st := s_Same_rule_word) l_Same_rule_word c_Same_rule_word k_Same_rule_word, b_Same_rule_word := (fun_mk (st := s_Same_rule_word) l_Same_rule_word c_Same_rule_word k_Same_rule_word).binds (fun _ _ _ _ _ _ us hl => match us, hl with | [_], _ => rfl),
    a_all_rules := _, d_all_rules := _, F_all_rules := fun_mk (st := s_all_rules) l_all_rules c_all_rules k_all_rules, b_all_rules := (fun_mk (st := s_all_rules) l_all_rules c_all_rules k_all_rules).binds (fun _ _ _ _ _ _ us hl => match us, hl with | [], _ => rfl), g_all_rules := PySem.W.mg_of X G a_all_rules,
    a_is_kept := _, d_is_kept := _, F_is_kept := fun_mk (st := s_is_kept) l_is_kept c_is_kept k_is_kept, b_is_kept := (fun_mk (st := s_is_kept) l_is_kept c_is_kept k_is_kept).binds (fun _ _ _ _ _ _ us hl => match us, hl with | [_], _ => rfl), g_is_kept := PySem.W.mg_of X G a_is_kept,
    a_is_name := _, d_is_name := _, F_is_name := fun_mk (st := s_is_name) l_is_name c_is_name k_is_name, b_is_name := (fun_mk (st := s_is_name) l_is_name c_is_name k_is_name).binds (fun _ _ _ _ _ _ us hl => match us, hl with | [_], _ => rfl), g_is_name := PySem.W.mg_of X G a_is_name,
    a_need_fit := _, d_need_fit := _, F_need_fit := fun_mk (st := s_need_fit) l_need_fit c_need_fit k_need_fit, b_need_fit := (fun_mk (st := s_need_fit) l_need_fit c_need_fit k_need_fit).binds (fun _ _ _ _ _ _ us hl => match us, hl with | [_], _ => rfl), g_need_fit := PySem.W.mg_of X G a_need_fit,
    a_Named_init := _, d_Named_init := _, F_Named_init := fun_mk (st := s_Named_init) l_Named_init c_Named_init k_Named_init, b_Named_init := (fun_mk (st := s_Named_init) l_Named_init c_Named_init k_Named_init).binds (fun _ _ _ _ _ _ us hl => match us, hl with | [_, _], _ => rfl),
    a_is_place := _, d_is_place := _, F_is_place := fun_mk (st := s_is_place) l_is_place c_is_place k_is_place, b_is_place := (fun_mk (st := s_is_place) l_is_place c_is_place k_is_place).binds (fun _ _ _ _ _ _ us hl => match us, hl with | [_], _ => rfl), g_is_place := PySem.W.mg_of X G a_is_place,
    a_is_value := _, d_is_value := _, F_is_value := fun_mk (st := s_is_value) l_is_value c_is_value k_is_value, b_is_value := (fun_mk (st := s_is_value) l_is_value c_is_value k_is_value).binds (fun _ _ _ _ _ _ us hl => match us, hl with | [_], _ => rfl), g_is_value := PySem.W.mg_of X G a_is_value,
    a_Flat_init := _, d_Flat_init := _, F_Flat_init := fun_mk (st := s_Flat_init) l_Flat_init c_Flat_init k_Flat_init, b_Flat_init := (fun_mk (st := s_Flat_init) l_Flat_init c_Flat_init k_Flat_init).binds (fun _ _ _ _ _ _ us hl => match us, hl with | [_, _], _ => rfl),
    a_is_span := _, d_is_span := _, F_is_span := fun_mk (st := s_is_span) l_is_span c_is_span k_is_span, b_is_span := (fun_mk (st := s_is_span) l_is_span c_is_span k_is_span).binds (fun _ _ _ _ _ _ us hl => match us, hl with | [_], _ => rfl), g_is_span := PySem.W.mg_of X G a_is_span,
    a_Only_init := _, d_Only_init := _, F_Only_init := fun_mk (st := s_Only_init) l_Only_init c_Only_init k_Only_init, b_Only_init := (fun_mk (st := s_Only_init) l_Only_init c_Only_init k_Only_init).binds (fun _ _ _ _ _ _ us hl => match us, hl with | [_, _, _], _ => rfl),
    a_Shifted_init := _, d_Shifted_init := _, F_Shifted_init := fun_mk (st := s_Shifted_init) l_Shifted_init c_Shifted_init k_Shifted_init, b_Shifted_init := (fun_mk (st := s_Shifted_init) l_Shifted_init c_Shifted_init k_Shifted_init).binds (fun _ _ _ _ _ _ us hl => match us, hl with | [_, _, _], _ => rfl),
    a_Flipped_init := _, d_Flipped_init := _, F_Flipped_init := fun_mk (st := s_Flipped_init) l_Flipped_init c_Flipped_init k_Flipped_init, b_Flipped_init := (fun_mk (st := s_Flipped_init) l_Flipped_init c_Flipped_init k_Flipped_init).binds (fun _ _ _ _ _ _ us hl => match us, hl with | [_, _, _], _ => rfl),
    a_rule_by := _, d_rule_by := _, F_rule_by := fun_mk (st := s_rule_by) l_rule_by c_rule_by k_rule_by, b_rule_by := (fun_mk (st := s_rule_by) l_rule_by c_rule_by k_rule_by).binds (fun _ _ _ _ _ _ us hl => match us, hl with | [_], _ => rfl), g_rule_by := PySem.W.mg_of X G a_rule_by,
    a_Joint_init := _, d_Joint_init := _, F_Joint_init := fun_mk (st := s_Joint_init) l_Joint_init c_Joint_init k_Joint_init, b_Joint_init := (fun_mk (st := s_Joint_init) l_Joint_init c_Joint_init k_Joint_init).binds (fun _ _ _ _ _ _ us hl => match us, hl with | [_, _, _, _], _ => rfl),
    a_Tree_limbs := _, d_Tree_limbs := _, F_Tree_limbs := fun_mk (st := s_Tree_limbs) l_Tree_limbs c_Tree_limbs k_Tree_limbs, b_Tree_limbs := (fun_mk (st := s_Tree_limbs) l_Tree_limbs c_Tree_limbs k_Tree_limbs).binds (fun _ _ _ _ _ _ us hl => match us, hl with | [_], _ => rfl),
    a_Tree_own_names := _, d_Tree_own_names := _, F_Tree_own_names := fun_mk (st := s_Tree_own_names) l_Tree_own_names c_Tree_own_names k_Tree_own_names, b_Tree_own_names := (fun_mk (st := s_Tree_own_names) l_Tree_own_names c_Tree_own_names k_Tree_own_names).binds (fun _ _ _ _ _ _ us hl => match us, hl with | [_], _ => rfl),
    a_Named_own_names := _, d_Named_own_names := _, F_Named_own_names := fun_mk (st := s_Named_own_names) l_Named_own_names c_Named_own_names k_Named_own_names, b_Named_own_names := (fun_mk (st := s_Named_own_names) l_Named_own_names c_Named_own_names k_Named_own_names).binds (fun _ _ _ _ _ _ us hl => match us, hl with | [_], _ => rfl),
    a_Named_told := _, d_Named_told := _, F_Named_told := fun_mk (st := s_Named_told) l_Named_told c_Named_told k_Named_told, b_Named_told := (fun_mk (st := s_Named_told) l_Named_told c_Named_told k_Named_told).binds (fun _ _ _ _ _ _ us hl => match us, hl with | [_], _ => rfl),
    a_Flat_told := _, d_Flat_told := _, F_Flat_told := fun_mk (st := s_Flat_told) l_Flat_told c_Flat_told k_Flat_told, b_Flat_told := (fun_mk (st := s_Flat_told) l_Flat_told c_Flat_told k_Flat_told).binds (fun _ _ _ _ _ _ us hl => match us, hl with | [_], _ => rfl),
    a_Only_limbs := _, d_Only_limbs := _, F_Only_limbs := fun_mk (st := s_Only_limbs) l_Only_limbs c_Only_limbs k_Only_limbs, b_Only_limbs := (fun_mk (st := s_Only_limbs) l_Only_limbs c_Only_limbs k_Only_limbs).binds (fun _ _ _ _ _ _ us hl => match us, hl with | [_], _ => rfl),
    a_Joint_told := _, d_Joint_told := _, F_Joint_told := fun_mk (st := s_Joint_told) l_Joint_told c_Joint_told k_Joint_told, b_Joint_told := (fun_mk (st := s_Joint_told) l_Joint_told c_Joint_told k_Joint_told).binds (fun _ _ _ _ _ _ us hl => match us, hl with | [_], _ => rfl),
    a_Flipped_told := _, d_Flipped_told := _, F_Flipped_told := fun_mk (st := s_Flipped_told) l_Flipped_told c_Flipped_told k_Flipped_told, b_Flipped_told := (fun_mk (st := s_Flipped_told) l_Flipped_told c_Flipped_told k_Flipped_told).binds (fun _ _ _ _ _ _ us hl => match us, hl with | [_], _ => rfl),
    a_Shifted_told := _, d_Shifted_told := _, F_Shifted_told := fun_mk (st := s_Shifted_told) l_Shifted_told c_Shifted_told k_Shifted_told, b_Shifted_told := (fun_mk (st := s_Shifted_told) l_Shifted_told c_Shifted_told k_Shifted_told).binds (fun _ _ _ _ _ _ us hl => match us, hl with | [_], _ => rfl),
    a_Only_told := _, d_Only_told := _, F_Only_told := fun_mk (st := s_Only_told) l_Only_told c_Only_told k_Only_told, b_Only_told := (fun_mk (st := s_Only_told) l_Only_told c_Only_told k_Only_told).binds (fun _ _ _ _ _ _ us hl => match us, hl with | [_], _ => rfl),
    a_Shifted_limbs := _, d_Shifted_limbs := _, F_Shifted_limbs := fun_mk (st := s_Shifted_limbs) l_Shifted_limbs c_Shifted_limbs k_Shifted_limbs, b_Shifted_limbs := (fun_mk (st := s_Shifted_limbs) l_Shifted_limbs c_Shifted_limbs k_Shifted_limbs).binds (fun _ _ _ _ _ _ us hl => match us, hl with | [_], _ => rfl),
    a_Flipped_limbs := _, d_Flipped_limbs := _, F_Flipped_limbs := fun_mk (st := s_Flipped_limbs) l_Flipped_limbs c_Flipped_limbs k_Flipped_limbs, b_Flipped_limbs := (fun_mk (st := s_Flipped_limbs) l_Flipped_limbs c_Flipped_limbs k_Flipped_limbs).binds (fun _ _ _ _ _ _ us hl => match us, hl with | [_], _ => rfl),
    a_Joint_limbs := _, d_Joint_limbs := _, F_Joint_limbs := fun_mk (st := s_Joint_limbs) l_Joint_limbs c_Joint_limbs k_Joint_limbs, b_Joint_limbs := (fun_mk (st := s_Joint_limbs) l_Joint_limbs c_Joint_limbs k_Joint_limbs).binds (fun _ _ _ _ _ _ us hl => match us, hl with | [_], _ => rfl),
    a_all_parts := _, d_all_parts := _, F_all_parts := fun_mk (st := s_all_parts) l_all_parts c_all_parts k_all_parts, b_all_parts := (fun_mk (st := s_all_parts) l_all_parts c_all_parts k_all_parts).binds (fun _ _ _ _ _ _ us hl => match us, hl with | [_], _ => rfl), g_all_parts := PySem.W.mg_of X G a_all_parts,
    a_names_in := _, d_names_in := _, F_names_in := fun_mk (st := s_names_in) l_names_in c_names_in k_names_in, b_names_in := (fun_mk (st := s_names_in) l_names_in c_names_in k_names_in).binds (fun _ _ _ _ _ _ us hl => match us, hl with | [_], _ => rfl), g_names_in := PySem.W.mg_of X G a_names_in,
    a_parts_in := _, d_parts_in := _, F_parts_in := fun_mk (st := s_parts_in) l_parts_in c_parts_in k_parts_in, b_parts_in := (fun_mk (st := s_parts_in) l_parts_in c_parts_in k_parts_in).binds (fun _ _ _ _ _ _ us hl => match us, hl with | [_], _ => rfl), g_parts_in := PySem.W.mg_of X G a_parts_in,
    a_l_cell := _, d_l_cell := _, F_l_cell := fun_mk (st := s_l_cell) l_l_cell c_l_cell k_l_cell, b_l_cell := (fun_mk (st := s_l_cell) l_l_cell c_l_cell k_l_cell).binds (fun _ _ _ _ _ _ us hl => match us, hl with | [_, _], _ => rfl), g_l_cell := PySem.W.mg_of X G a_l_cell,
    a_l_value := _, d_l_value := _, F_l_value := fun_mk (st := s_l_value) l_l_value c_l_value k_l_value, b_l_value := (fun_mk (st := s_l_value) l_l_value c_l_value k_l_value).binds (fun _ _ _ _ _ _ us hl => match us, hl with | [_], _ => rfl), g_l_value := PySem.W.mg_of X G a_l_value,
    a_l_word_of := _, d_l_word_of := _, F_l_word_of := fun_mk (st := s_l_word_of) l_l_word_of c_l_word_of k_l_word_of, b_l_word_of := (fun_mk (st := s_l_word_of) l_l_word_of c_l_word_of k_l_word_of).binds (fun _ _ _ _ _ _ us hl => match us, hl with | [_], _ => rfl), g_l_word_of := PySem.W.mg_of X G a_l_word_of,
    a_l_titles := _, d_l_titles := _, F_l_titles := fun_mk (st := s_l_titles) l_l_titles c_l_titles k_l_titles, b_l_titles := (fun_mk (st := s_l_titles) l_l_titles c_l_titles k_l_titles).binds (fun _ _ _ _ _ _ us hl => match us, hl with | [], _ => rfl), g_l_titles := PySem.W.mg_of X G a_l_titles,
    a_l_names := _, d_l_names := _, F_l_names := fun_mk (st := s_l_names) l_l_names c_l_names k_l_names, b_l_names := (fun_mk (st := s_l_names) l_l_names c_l_names k_l_names).binds (fun _ _ _ _ _ _ us hl => match us, hl with | [], _ => rfl), g_l_names := PySem.W.mg_of X G a_l_names,
    a_l_near_span := _, d_l_near_span := _, F_l_near_span := fun_mk (st := s_l_near_span) l_l_near_span c_l_near_span k_l_near_span, b_l_near_span := (fun_mk (st := s_l_near_span) l_l_near_span c_l_near_span k_l_near_span).binds (fun _ _ _ _ _ _ us hl => match us, hl with | [_], _ => rfl), g_l_near_span := PySem.W.mg_of X G a_l_near_span,
    a_l_tree := _, d_l_tree := _, F_l_tree := fun_mk (st := s_l_tree) l_l_tree c_l_tree k_l_tree, b_l_tree := (fun_mk (st := s_l_tree) l_l_tree c_l_tree k_l_tree).binds (fun _ _ _ _ _ _ us hl => match us, hl with | [_, _, _, _], _ => rfl), g_l_tree := PySem.W.mg_of X G a_l_tree,
    a_l_made := _, d_l_made := _, F_l_made := fun_mk (st := s_l_made) l_l_made c_l_made k_l_made, b_l_made := (fun_mk (st := s_l_made) l_l_made c_l_made k_l_made).binds (fun _ _ _ _ _ _ us hl => match us, hl with | [_], _ => rfl), g_l_made := PySem.W.mg_of X G a_l_made,
    a_l_kinds := _, d_l_kinds := _, F_l_kinds := fun_mk (st := s_l_kinds) l_l_kinds c_l_kinds k_l_kinds, b_l_kinds := (fun_mk (st := s_l_kinds) l_l_kinds c_l_kinds k_l_kinds).binds (fun _ _ _ _ _ _ us hl => match us, hl with | [_], _ => rfl), g_l_kinds := PySem.W.mg_of X G a_l_kinds,
    a_l_names_of := _, d_l_names_of := _, F_l_names_of := fun_mk (st := s_l_names_of) l_l_names_of c_l_names_of k_l_names_of, b_l_names_of := (fun_mk (st := s_l_names_of) l_l_names_of c_l_names_of k_l_names_of).binds (fun _ _ _ _ _ _ us hl => match us, hl with | [_], _ => rfl), g_l_names_of := PySem.W.mg_of X G a_l_names_of,
    a_l_fields_right := _, d_l_fields_right := _, F_l_fields_right := fun_mk (st := s_l_fields_right) l_l_fields_right c_l_fields_right k_l_fields_right, b_l_fields_right := (fun_mk (st := s_l_fields_right) l_l_fields_right c_l_fields_right k_l_fields_right).binds (fun _ _ _ _ _ _ us hl => match us, hl with | [_, _], _ => rfl), g_l_fields_right := PySem.W.mg_of X G a_l_fields_right,
    a_l_odd_name := _, d_l_odd_name := _, F_l_odd_name := fun_mk (st := s_l_odd_name) l_l_odd_name c_l_odd_name k_l_odd_name, b_l_odd_name := (fun_mk (st := s_l_odd_name) l_l_odd_name c_l_odd_name k_l_odd_name).binds (fun _ _ _ _ _ _ us hl => match us, hl with | [_], _ => rfl), g_l_odd_name := PySem.W.mg_of X G a_l_odd_name,
    a_l_is_name := _, d_l_is_name := _, F_l_is_name := fun_mk (st := s_l_is_name) l_l_is_name c_l_is_name k_l_is_name, b_l_is_name := (fun_mk (st := s_l_is_name) l_l_is_name c_l_is_name k_l_is_name).binds (fun _ _ _ _ _ _ us hl => match us, hl with | [_], _ => rfl), g_l_is_name := PySem.W.mg_of X G a_l_is_name,
    a_l_wrong := _, d_l_wrong := _, F_l_wrong := fun_mk (st := s_l_wrong) l_l_wrong c_l_wrong k_l_wrong, b_l_wrong := (fun_mk (st := s_l_wrong) l_l_wrong c_l_wrong k_l_wrong).binds (fun _ _ _ _ _ _ us hl => match us, hl with | [_], _ => rfl), g_l_wrong := PySem.W.mg_of X G a_l_wrong,
    a_l_deep_tree := _, d_l_deep_tree := _, F_l_deep_tree := fun_mk (st := s_l_deep_tree) l_l_deep_tree c_l_deep_tree k_l_deep_tree, b_l_deep_tree := (fun_mk (st := s_l_deep_tree) l_l_deep_tree c_l_deep_tree k_l_deep_tree).binds (fun _ _ _ _ _ _ us hl => match us, hl with | [_, _], _ => rfl), g_l_deep_tree := PySem.W.mg_of X G a_l_deep_tree,
    a_l_twice_right := _, d_l_twice_right := _, F_l_twice_right := fun_mk (st := s_l_twice_right) l_l_twice_right c_l_twice_right k_l_twice_right, b_l_twice_right := (fun_mk (st := s_l_twice_right) l_l_twice_right c_l_twice_right k_l_twice_right).binds (fun _ _ _ _ _ _ us hl => match us, hl with | [_, _], _ => rfl), g_l_twice_right := PySem.W.mg_of X G a_l_twice_right,
    a_law := _, d_law := _, F_law := fun_mk (st := s_law) l_law c_law k_law, b_law := (fun_mk (st := s_law) l_law c_law k_law).binds (fun _ _ _ _ _ _ us hl => match us, hl with | [_], _ => rfl), g_law := PySem.W.mg_of X G a_law,
    n_ValueError := PySem.W.mg_none_of X G z_ValueError,
    n_all := PySem.W.mg_none_of X G z_all,
    n_bool := PySem.W.mg_none_of X G z_bool,
    n_int := PySem.W.mg_none_of X G z_int,
    n_isinstance := PySem.W.mg_none_of X G z_isinstance,
    n_len := PySem.W.mg_none_of X G z_len,
    n_min := PySem.W.mg_none_of X G z_min,
    n_range := PySem.W.mg_none_of X G z_range,
    n_set := PySem.W.mg_none_of X G z_set,
    n_sorted := PySem.W.mg_none_of X G z_sorted,
    n_str := PySem.W.mg_none_of X G z_str,
    n_tuple := PySem.W.mg_none_of X G z_tuple,
    t_MOST_LETTERS := _, g_MOST_LETTERS := PySem.W.mg_of X G z_MOST_LETTERS,
    t_SMALL := _, g_SMALL := PySem.W.mg_of X G z_SMALL,
    g_FarError := PySem.W.mg_of X G ga_FarError,
    g_NoSpan := PySem.W.mg_of X G ga_NoSpan,
    g_NoValue := PySem.W.mg_of X G ga_NoValue,
    g_NoPlace := PySem.W.mg_of X G ga_NoPlace,
    g_NoCount := PySem.W.mg_of X G ga_NoCount,
    g_NoWheel := PySem.W.mg_of X G ga_NoWheel,
    g_NoRow := PySem.W.mg_of X G ga_NoRow,
    g_NoWord := PySem.W.mg_of X G ga_NoWord,
    g_NoWalker := PySem.W.mg_of X G ga_NoWalker,
    g_NoState := PySem.W.mg_of X G ga_NoState,
    g_NoName := PySem.W.mg_of X G ga_NoName,
    g_NoVersion := PySem.W.mg_of X G ga_NoVersion,
    g_NoTree := PySem.W.mg_of X G ga_NoTree,
    g_TooMany := PySem.W.mg_of X G ga_TooMany,
    g_NoText := PySem.W.mg_of X G ga_NoText,
    g_Rule := PySem.W.mg_of X G ga_Rule,
    g_Over := PySem.W.mg_of X G ga_Over,
    g_Where := PySem.W.mg_of X G ga_Where,
    g_Without := PySem.W.mg_of X G ga_Without,
    g_Sum := PySem.W.mg_of X G ga_Sum,
    g_Less := PySem.W.mg_of X G ga_Less,
    g_Least := PySem.W.mg_of X G ga_Least,
    g_Greatest := PySem.W.mg_of X G ga_Greatest,
    g_Same := PySem.W.mg_of X G ga_Same,
    g_Tree := PySem.W.mg_of X G ga_Tree,
    g_Named := PySem.W.mg_of X G ga_Named,
    g_Flat := PySem.W.mg_of X G ga_Flat,
    g_Only := PySem.W.mg_of X G ga_Only,
    g_Shifted := PySem.W.mg_of X G ga_Shifted,
    g_Flipped := PySem.W.mg_of X G ga_Flipped,
    g_Joint := PySem.W.mg_of X G ga_Joint,
    g_OWN_WORDS := PySem.W.mg_of X G z_OWN_WORDS,
    xi_NoTree := xi_NoTree, kp_NoTree := kp_NoTree, xb_NoTree := xb_NoTree, ty_NoTree := ty_NoTree,
    mk_Flat := ⟨mk_Flat, a_Flat_init, i_Flat_init, kp_Flat⟩,
    mk_Flipped := ⟨mk_Flipped, a_Flipped_init, i_Flipped_init, kp_Flipped⟩,
    mk_Joint := ⟨mk_Joint, a_Joint_init, i_Joint_init, kp_Joint⟩,
    mk_Named := ⟨mk_Named, a_Named_init, i_Named_init, kp_Named⟩,
    mk_Only := ⟨mk_Only, a_Only_init, i_Only_init, kp_Only⟩,
    mk_Shifted := ⟨mk_Shifted, a_Shifted_init, i_Shifted_init, kp_Shifted⟩,
    m0_Greatest := ⟨mk_Greatest, io_Greatest, em_Greatest, kp_Greatest⟩,
    m0_Least := ⟨mk_Least, io_Least, em_Least, kp_Least⟩,
    m0_Less := ⟨mk_Less, io_Less, em_Less, kp_Less⟩,
    m0_Over := ⟨mk_Over, io_Over, em_Over, kp_Over⟩,
    m0_Same := ⟨mk_Same, io_Same, em_Same, kp_Same⟩,
    m0_Sum := ⟨mk_Sum, io_Sum, em_Sum, kp_Sum⟩,
    m0_Where := ⟨mk_Where, io_Where, em_Where, kp_Where⟩,
    m0_Without := ⟨mk_Without, io_Without, em_Without, kp_Without⟩,
    me_Flat_limbs := ⟨ai_Flat_limbs, i_Tree_limbs, k_Tree_limbs⟩,
    me_Flat_own_names := ⟨ai_Flat_own_names, i_Tree_own_names, k_Tree_own_names⟩,
    me_Flat_told := ⟨a_Flat_told, i_Flat_told, k_Flat_told⟩,
    me_Flipped_limbs := ⟨a_Flipped_limbs, i_Flipped_limbs, k_Flipped_limbs⟩,
    me_Flipped_own_names := ⟨ai_Flipped_own_names, i_Tree_own_names, k_Tree_own_names⟩,
    me_Flipped_told := ⟨a_Flipped_told, i_Flipped_told, k_Flipped_told⟩,
    me_Greatest_rule_word := ⟨a_Greatest_rule_word, i_Greatest_rule_word, k_Greatest_rule_word⟩,
    me_Joint_limbs := ⟨a_Joint_limbs, i_Joint_limbs, k_Joint_limbs⟩,
    me_Joint_own_names := ⟨ai_Joint_own_names, i_Tree_own_names, k_Tree_own_names⟩,
    me_Joint_told := ⟨a_Joint_told, i_Joint_told, k_Joint_told⟩,
    me_Least_rule_word := ⟨a_Least_rule_word, i_Least_rule_word, k_Least_rule_word⟩,
    me_Less_rule_word := ⟨a_Less_rule_word, i_Less_rule_word, k_Less_rule_word⟩,
    me_Named_limbs := ⟨ai_Named_limbs, i_Tree_limbs, k_Tree_limbs⟩,
    me_Named_own_names := ⟨a_Named_own_names, i_Named_own_names, k_Named_own_names⟩,
    me_Named_told := ⟨a_Named_told, i_Named_told, k_Named_told⟩,
    me_Only_limbs := ⟨a_Only_limbs, i_Only_limbs, k_Only_limbs⟩,
    me_Only_own_names := ⟨ai_Only_own_names, i_Tree_own_names, k_Tree_own_names⟩,
    me_Only_told := ⟨a_Only_told, i_Only_told, k_Only_told⟩,
    me_Over_rule_word := ⟨a_Over_rule_word, i_Over_rule_word, k_Over_rule_word⟩,
    me_Rule_rule_word := ⟨a_Rule_rule_word, i_Rule_rule_word, k_Rule_rule_word⟩,
    me_Same_rule_word := ⟨a_Same_rule_word, i_Same_rule_word, k_Same_rule_word⟩,
    me_Shifted_limbs := ⟨a_Shifted_limbs, i_Shifted_limbs, k_Shifted_limbs⟩,
    me_Shifted_own_names := ⟨ai_Shifted_own_names, i_Tree_own_names, k_Tree_own_names⟩,
    me_Shifted_told := ⟨a_Shifted_told, i_Shifted_told, k_Shifted_told⟩,
    me_Sum_rule_word := ⟨a_Sum_rule_word, i_Sum_rule_word, k_Sum_rule_word⟩,
    me_Tree_limbs := ⟨a_Tree_limbs, i_Tree_limbs, k_Tree_limbs⟩,
    me_Tree_own_names := ⟨a_Tree_own_names, i_Tree_own_names, k_Tree_own_names⟩,
    me_Where_rule_word := ⟨a_Where_rule_word, i_Where_rule_word, k_Where_rule_word⟩,
    me_Without_rule_word := ⟨a_Without_rule_word, i_Without_rule_word, k_Without_rule_word⟩,
    zf := {triv := trivial, exc_NoTree := ⟨eg_NoTree, ek_NoTree, xb_NoTree, hd_NoTree, ec_NoTree, gcn, gct, em_NoTree⟩, exm_NoTree_FarError := PySem.W.exm_ref xb_FarError hd_FarError ty_FarError sb_NoTree_FarError, kit_NoTree_NoSpan := kit_own ic_NoSpan ty_NoSpan sb_NoSpan_NoSpan sb_NoTree_NoSpan, kit_NoTree_NoValue := kit_own ic_NoValue ty_NoValue sb_NoValue_NoValue sb_NoTree_NoValue, kit_NoTree_NoPlace := kit_own ic_NoPlace ty_NoPlace sb_NoPlace_NoPlace sb_NoTree_NoPlace, kit_NoTree_NoState := kit_own ic_NoState ty_NoState sb_NoState_NoState sb_NoTree_NoState, kit_NoTree_NoVersion := kit_own ic_NoVersion ty_NoVersion sb_NoVersion_NoVersion sb_NoTree_NoVersion, kit_NoTree_NoCount := kit_own ic_NoCount ty_NoCount sb_NoCount_NoCount sb_NoTree_NoCount, kit_NoTree_NoRow := kit_own ic_NoRow ty_NoRow sb_NoRow_NoRow sb_NoTree_NoRow, kit_NoTree_NoWord := kit_own ic_NoWord ty_NoWord sb_NoWord_NoWord sb_NoTree_NoWord, kit_NoTree_NoName := kit_own ic_NoName ty_NoName sb_NoName_NoName sb_NoTree_NoName, kit_NoTree_NoTree := kit_own ic_NoTree ty_NoTree sb_NoTree_NoTree sb_NoTree_NoTree, kit_NoTree_TooMany := kit_own ic_TooMany ty_TooMany sb_TooMany_TooMany sb_NoTree_TooMany, kit_NoTree_NoText := kit_own ic_NoText ty_NoText sb_NoText_NoText sb_NoTree_NoText, kit_NoTree_NoWheel := kit_own ic_NoWheel ty_NoWheel sb_NoWheel_NoWheel sb_NoTree_NoWheel, kit_NoTree_NoWalker := kit_own ic_NoWalker ty_NoWalker sb_NoWalker_NoWalker sb_NoTree_NoWalker, kit_NoTree_ValueError := kit_ownT (by decide +kernel) (by rfl) sv_NoTree_ValueError, ins_Rule := ⟨⟨pg_Rule, hd_Rule, po_Rule, sa_Rule⟩, ec_Rule, gcn, gct, em_Rule⟩, kit_Rule_Tree := kit_own ic_Tree ty_Tree sb_Tree_Tree sb_Rule_Tree, ins_Over := ⟨⟨pg_Over, hd_Over, po_Over, sa_Over⟩, ec_Over, gcn, gct, em_Over⟩, kit_Over_Tree := kit_own ic_Tree ty_Tree sb_Tree_Tree sb_Over_Tree, ins_Where := ⟨⟨pg_Where, hd_Where, po_Where, sa_Where⟩, ec_Where, gcn, gct, em_Where⟩, kit_Where_Tree := kit_own ic_Tree ty_Tree sb_Tree_Tree sb_Where_Tree, ins_Without := ⟨⟨pg_Without, hd_Without, po_Without, sa_Without⟩, ec_Without, gcn, gct, em_Without⟩, kit_Without_Tree := kit_own ic_Tree ty_Tree sb_Tree_Tree sb_Without_Tree, ins_Sum := ⟨⟨pg_Sum, hd_Sum, po_Sum, sa_Sum⟩, ec_Sum, gcn, gct, em_Sum⟩, kit_Sum_Tree := kit_own ic_Tree ty_Tree sb_Tree_Tree sb_Sum_Tree, ins_Less := ⟨⟨pg_Less, hd_Less, po_Less, sa_Less⟩, ec_Less, gcn, gct, em_Less⟩, kit_Less_Tree := kit_own ic_Tree ty_Tree sb_Tree_Tree sb_Less_Tree, ins_Least := ⟨⟨pg_Least, hd_Least, po_Least, sa_Least⟩, ec_Least, gcn, gct, em_Least⟩, kit_Least_Tree := kit_own ic_Tree ty_Tree sb_Tree_Tree sb_Least_Tree, ins_Greatest := ⟨⟨pg_Greatest, hd_Greatest, po_Greatest, sa_Greatest⟩, ec_Greatest, gcn, gct, em_Greatest⟩, kit_Greatest_Tree := kit_own ic_Tree ty_Tree sb_Tree_Tree sb_Greatest_Tree, ins_Same := ⟨⟨pg_Same, hd_Same, po_Same, sa_Same⟩, ec_Same, gcn, gct, em_Same⟩, kit_Same_Tree := kit_own ic_Tree ty_Tree sb_Tree_Tree sb_Same_Tree, ins_Tree := ⟨⟨pg_Tree, hd_Tree, po_Tree, sa_Tree⟩, ec_Tree, gcn, gct, em_Tree⟩, kit_Tree_Tree := kit_own ic_Tree ty_Tree sb_Tree_Tree sb_Tree_Tree, ins_Named := ⟨⟨pg_Named, hd_Named, po_Named, sa_Named⟩, ec_Named, gcn, gct, em_Named⟩, na_Named_name := na_Named_name, kit_Named_Tree := kit_own ic_Tree ty_Tree sb_Tree_Tree sb_Named_Tree, ins_Flat := ⟨⟨pg_Flat, hd_Flat, po_Flat, sa_Flat⟩, ec_Flat, gcn, gct, em_Flat⟩, na_Flat_value := na_Flat_value, kit_Flat_Tree := kit_own ic_Tree ty_Tree sb_Tree_Tree sb_Flat_Tree, ins_Only := ⟨⟨pg_Only, hd_Only, po_Only, sa_Only⟩, ec_Only, gcn, gct, em_Only⟩, na_Only_tree := na_Only_tree, na_Only_span := na_Only_span, kit_Only_Tree := kit_own ic_Tree ty_Tree sb_Tree_Tree sb_Only_Tree, ins_Shifted := ⟨⟨pg_Shifted, hd_Shifted, po_Shifted, sa_Shifted⟩, ec_Shifted, gcn, gct, em_Shifted⟩, na_Shifted_tree := na_Shifted_tree, na_Shifted_by := na_Shifted_by, kit_Shifted_Tree := kit_own ic_Tree ty_Tree sb_Tree_Tree sb_Shifted_Tree, ins_Flipped := ⟨⟨pg_Flipped, hd_Flipped, po_Flipped, sa_Flipped⟩, ec_Flipped, gcn, gct, em_Flipped⟩, na_Flipped_tree := na_Flipped_tree, na_Flipped_about := na_Flipped_about, kit_Flipped_Tree := kit_own ic_Tree ty_Tree sb_Tree_Tree sb_Flipped_Tree, ins_Joint := ⟨⟨pg_Joint, hd_Joint, po_Joint, sa_Joint⟩, ec_Joint, gcn, gct, em_Joint⟩, na_Joint_title := na_Joint_title, na_Joint_one := na_Joint_one, na_Joint_other := na_Joint_other, kit_Joint_Tree := kit_own ic_Tree ty_Tree sb_Tree_Tree sb_Joint_Tree, kty_NoneType_Tree := kit_tyOwn ic_Tree ty_Tree st_NoneType_Tree, kty_str_Tree := kit_tyOwn ic_Tree ty_Tree st_str_Tree, kty_int_Tree := kit_tyOwn ic_Tree ty_Tree st_int_Tree, kty_tuple_Tree := kit_tyOwn ic_Tree ty_Tree st_tuple_Tree, kty_list_Tree := kit_tyOwn ic_Tree ty_Tree st_list_Tree, kty_dict_Tree := kit_tyOwn ic_Tree ty_Tree st_dict_Tree, kty_bool_Tree := kit_tyOwn ic_Tree ty_Tree st_bool_Tree, ktp_OWN_WORDS := ⟨_, kl_OWN_WORDS, km_OWN_WORDS⟩} }
  exact ⟨_, fun s v => .of_eq rfl, fun base _ _ => FnOk.imp (ok_law T) (spD_imp (law_rf (law_holds _)))⟩
end Far
open PySem PySem.W PyProof.Rows
set_option maxRecDepth 100000 in
set_option maxHeartbeats 0 in
theorem PySem.Challenge.cw_farrows_k91_trees_made_holds : PySem.Challenge.rw_farrows_k91_trees_made.Holds := by
  w_on; o_law
  refine HandSHeadRun.head_any (r := OpenLaw.row PySem.Challenge.rw_farrows_k91_trees_made) (q := view (OpenLaw.row PySem.Challenge.rw_farrows_k91_trees_made).prog [68]) (H := Far.hkQ) (ob := Far.obQ) (loose := Far.nmQ) (d := HandSHeadRun.topDef (OpenLaw.row PySem.Challenge.rw_farrows_k91_trees_made).prog 68) (kwd := []) FarH.obQ_eq
    (by kernel_rfl) (fun s => by kernel_rfl) Far.runQ (by kernel_rfl) (by kernel_rfl) (by kernel_rfl) (by rfl) (by first | assumption | decide +kernel) (by decide +kernel) ⟨rfl, rfl, rfl, rfl, rfl, by decide +kernel⟩ ?hw ?hc
  case hw => w_witness2
  case hc =>
    refine L2.walk_ofE (l := PySem.Challenge.rw_farrows_k91_trees_made) (n := 63) (k := 20) (x := "_law_script") (CX := L2.CX0) rfl (by decide) (by kernel_rfl) ⟨rfl, by decide, by decide⟩ ?F (fun _ _ _ _ z => z)
    intro w mg fa h Y G hmg0
    obtain ⟨K, KX, c⟩ := Y
    have hmg : mg ("law" : Str) = some (.ref fa) := hmg0
    have b := c.b
    obtain ⟨q0, b⟩ := He.ba b
    have q0 := @of_decide_eq_true _ (Far.dQ0 K) q0
    obtain ⟨q1, b⟩ := He.ba b
    have q1 := @of_decide_eq_true _ (Far.dQ1 K) q1
    obtain ⟨q2, b⟩ := He.ba b
    have q2 := @of_decide_eq_true _ (Far.dQ2 K) q2
    obtain ⟨q3, b⟩ := He.ba b
    have q3 := @of_decide_eq_true _ (Far.dQ3 K) q3
    obtain ⟨q4, b⟩ := He.ba b
    have q4 := @of_decide_eq_true _ (Far.dQ4 K) q4
    obtain ⟨q5, b⟩ := He.ba b
    have q5 := @of_decide_eq_true _ (Far.dQ5 K) q5
    obtain ⟨q6, b⟩ := He.ba b
    have q6 := @of_decide_eq_true _ (Far.dQ6 K) q6
    obtain ⟨q7, b⟩ := He.ba b
    have q7 := @of_decide_eq_true _ (Far.dQ7 K) q7
    obtain ⟨q8, b⟩ := He.ba b
    have q8 := @of_decide_eq_true _ (Far.dQ8 K) q8
    obtain ⟨q9, b⟩ := He.ba b
    have q9 := @of_decide_eq_true _ (Far.dQ9 K) q9
    obtain ⟨q10, b⟩ := He.ba b
    have q10 := @of_decide_eq_true _ (Far.dQ10 K) q10
    obtain ⟨q11, b⟩ := He.ba b
    have q11 := @of_decide_eq_true _ (Far.dQ11 K) q11
    obtain ⟨q12, b⟩ := He.ba b
    have q12 := @of_decide_eq_true _ (Far.dQ12 K) q12
    obtain ⟨q13, b⟩ := He.ba b
    have q13 := @of_decide_eq_true _ (Far.dQ13 K) q13
    obtain ⟨q14, b⟩ := He.ba b
    have q14 := @of_decide_eq_true _ (Far.dQ14 K) q14
    obtain ⟨q15, b⟩ := He.ba b
    have q15 := @of_decide_eq_true _ (Far.dQ15 K) q15
    obtain ⟨q16, b⟩ := He.ba b
    have q16 := @of_decide_eq_true _ (Far.dQ16 K) q16
    obtain ⟨q17, b⟩ := He.ba b
    have q17 := @of_decide_eq_true _ (Far.dQ17 K) q17
    have q18 := @of_decide_eq_true _ (Far.dQ18 K) b
    obtain ⟨oc_Rule_rule_word, od_Rule_rule_word, sl_Rule_rule_word, kV_Rule_rule_word, dc_Rule_rule_word, pm_Rule_rule_word, an_Rule_rule_word, cd_Rule_rule_word, ct_Rule_rule_word, l_Rule_rule_word, c_Rule_rule_word⟩ := c.f 0 (d := Far.fa_Rule_rule_word) rfl
    obtain ⟨oc_Over_rule_word, od_Over_rule_word, sl_Over_rule_word, kV_Over_rule_word, dc_Over_rule_word, pm_Over_rule_word, an_Over_rule_word, cd_Over_rule_word, ct_Over_rule_word, l_Over_rule_word, c_Over_rule_word⟩ := c.f 1 (d := Far.fa_Over_rule_word) rfl
    obtain ⟨oc_Where_rule_word, od_Where_rule_word, sl_Where_rule_word, kV_Where_rule_word, dc_Where_rule_word, pm_Where_rule_word, an_Where_rule_word, cd_Where_rule_word, ct_Where_rule_word, l_Where_rule_word, c_Where_rule_word⟩ := c.f 2 (d := Far.fa_Where_rule_word) rfl
    obtain ⟨oc_Without_rule_word, od_Without_rule_word, sl_Without_rule_word, kV_Without_rule_word, dc_Without_rule_word, pm_Without_rule_word, an_Without_rule_word, cd_Without_rule_word, ct_Without_rule_word, l_Without_rule_word, c_Without_rule_word⟩ := c.f 3 (d := Far.fa_Without_rule_word) rfl
    obtain ⟨oc_Sum_rule_word, od_Sum_rule_word, sl_Sum_rule_word, kV_Sum_rule_word, dc_Sum_rule_word, pm_Sum_rule_word, an_Sum_rule_word, cd_Sum_rule_word, ct_Sum_rule_word, l_Sum_rule_word, c_Sum_rule_word⟩ := c.f 4 (d := Far.fa_Sum_rule_word) rfl
    obtain ⟨oc_Less_rule_word, od_Less_rule_word, sl_Less_rule_word, kV_Less_rule_word, dc_Less_rule_word, pm_Less_rule_word, an_Less_rule_word, cd_Less_rule_word, ct_Less_rule_word, l_Less_rule_word, c_Less_rule_word⟩ := c.f 5 (d := Far.fa_Less_rule_word) rfl
    obtain ⟨oc_Least_rule_word, od_Least_rule_word, sl_Least_rule_word, kV_Least_rule_word, dc_Least_rule_word, pm_Least_rule_word, an_Least_rule_word, cd_Least_rule_word, ct_Least_rule_word, l_Least_rule_word, c_Least_rule_word⟩ := c.f 6 (d := Far.fa_Least_rule_word) rfl
    obtain ⟨oc_Greatest_rule_word, od_Greatest_rule_word, sl_Greatest_rule_word, kV_Greatest_rule_word, dc_Greatest_rule_word, pm_Greatest_rule_word, an_Greatest_rule_word, cd_Greatest_rule_word, ct_Greatest_rule_word, l_Greatest_rule_word, c_Greatest_rule_word⟩ := c.f 7 (d := Far.fa_Greatest_rule_word) rfl
    obtain ⟨oc_Same_rule_word, od_Same_rule_word, sl_Same_rule_word, kV_Same_rule_word, dc_Same_rule_word, pm_Same_rule_word, an_Same_rule_word, cd_Same_rule_word, ct_Same_rule_word, l_Same_rule_word, c_Same_rule_word⟩ := c.f 8 (d := Far.fa_Same_rule_word) rfl
    obtain ⟨oc_all_rules, od_all_rules, sl_all_rules, kV_all_rules, dc_all_rules, pm_all_rules, an_all_rules, cd_all_rules, ct_all_rules, l_all_rules, c_all_rules⟩ := c.f 9 (d := Far.fa_all_rules) rfl
    obtain ⟨oc_is_kept, od_is_kept, sl_is_kept, kV_is_kept, dc_is_kept, pm_is_kept, an_is_kept, cd_is_kept, ct_is_kept, l_is_kept, c_is_kept⟩ := c.f 10 (d := Far.fa_is_kept) rfl
    obtain ⟨oc_is_name, od_is_name, sl_is_name, kV_is_name, dc_is_name, pm_is_name, an_is_name, cd_is_name, ct_is_name, l_is_name, c_is_name⟩ := c.f 11 (d := Far.fa_is_name) rfl
    obtain ⟨oc_need_fit, od_need_fit, sl_need_fit, kV_need_fit, dc_need_fit, pm_need_fit, an_need_fit, cd_need_fit, ct_need_fit, l_need_fit, c_need_fit⟩ := c.f 12 (d := Far.fa_need_fit) rfl
    obtain ⟨oc_Named_init, od_Named_init, sl_Named_init, kV_Named_init, dc_Named_init, pm_Named_init, an_Named_init, cd_Named_init, ct_Named_init, l_Named_init, c_Named_init⟩ := c.f 13 (d := Far.fa_Named_init) rfl
    obtain ⟨oc_is_place, od_is_place, sl_is_place, kV_is_place, dc_is_place, pm_is_place, an_is_place, cd_is_place, ct_is_place, l_is_place, c_is_place⟩ := c.f 14 (d := Far.fa_is_place) rfl
    obtain ⟨oc_is_value, od_is_value, sl_is_value, kV_is_value, dc_is_value, pm_is_value, an_is_value, cd_is_value, ct_is_value, l_is_value, c_is_value⟩ := c.f 15 (d := Far.fa_is_value) rfl
    obtain ⟨oc_Flat_init, od_Flat_init, sl_Flat_init, kV_Flat_init, dc_Flat_init, pm_Flat_init, an_Flat_init, cd_Flat_init, ct_Flat_init, l_Flat_init, c_Flat_init⟩ := c.f 16 (d := Far.fa_Flat_init) rfl
    obtain ⟨oc_is_span, od_is_span, sl_is_span, kV_is_span, dc_is_span, pm_is_span, an_is_span, cd_is_span, ct_is_span, l_is_span, c_is_span⟩ := c.f 17 (d := Far.fa_is_span) rfl
    obtain ⟨oc_Only_init, od_Only_init, sl_Only_init, kV_Only_init, dc_Only_init, pm_Only_init, an_Only_init, cd_Only_init, ct_Only_init, l_Only_init, c_Only_init⟩ := c.f 18 (d := Far.fa_Only_init) rfl
    obtain ⟨oc_Shifted_init, od_Shifted_init, sl_Shifted_init, kV_Shifted_init, dc_Shifted_init, pm_Shifted_init, an_Shifted_init, cd_Shifted_init, ct_Shifted_init, l_Shifted_init, c_Shifted_init⟩ := c.f 19 (d := Far.fa_Shifted_init) rfl
    obtain ⟨oc_Flipped_init, od_Flipped_init, sl_Flipped_init, kV_Flipped_init, dc_Flipped_init, pm_Flipped_init, an_Flipped_init, cd_Flipped_init, ct_Flipped_init, l_Flipped_init, c_Flipped_init⟩ := c.f 20 (d := Far.fa_Flipped_init) rfl
    obtain ⟨oc_rule_by, od_rule_by, sl_rule_by, kV_rule_by, dc_rule_by, pm_rule_by, an_rule_by, cd_rule_by, ct_rule_by, l_rule_by, c_rule_by⟩ := c.f 21 (d := Far.fa_rule_by) rfl
    obtain ⟨oc_Joint_init, od_Joint_init, sl_Joint_init, kV_Joint_init, dc_Joint_init, pm_Joint_init, an_Joint_init, cd_Joint_init, ct_Joint_init, l_Joint_init, c_Joint_init⟩ := c.f 22 (d := Far.fa_Joint_init) rfl
    obtain ⟨oc_Tree_limbs, od_Tree_limbs, sl_Tree_limbs, kV_Tree_limbs, dc_Tree_limbs, pm_Tree_limbs, an_Tree_limbs, cd_Tree_limbs, ct_Tree_limbs, l_Tree_limbs, c_Tree_limbs⟩ := c.f 23 (d := Far.fa_Tree_limbs) rfl
    obtain ⟨oc_Tree_own_names, od_Tree_own_names, sl_Tree_own_names, kV_Tree_own_names, dc_Tree_own_names, pm_Tree_own_names, an_Tree_own_names, cd_Tree_own_names, ct_Tree_own_names, l_Tree_own_names, c_Tree_own_names⟩ := c.f 24 (d := Far.fa_Tree_own_names) rfl
    obtain ⟨oc_Named_own_names, od_Named_own_names, sl_Named_own_names, kV_Named_own_names, dc_Named_own_names, pm_Named_own_names, an_Named_own_names, cd_Named_own_names, ct_Named_own_names, l_Named_own_names, c_Named_own_names⟩ := c.f 25 (d := Far.fa_Named_own_names) rfl
    obtain ⟨oc_Named_told, od_Named_told, sl_Named_told, kV_Named_told, dc_Named_told, pm_Named_told, an_Named_told, cd_Named_told, ct_Named_told, l_Named_told, c_Named_told⟩ := c.f 26 (d := Far.fa_Named_told) rfl
    obtain ⟨oc_Flat_told, od_Flat_told, sl_Flat_told, kV_Flat_told, dc_Flat_told, pm_Flat_told, an_Flat_told, cd_Flat_told, ct_Flat_told, l_Flat_told, c_Flat_told⟩ := c.f 27 (d := Far.fa_Flat_told) rfl
    obtain ⟨oc_Only_limbs, od_Only_limbs, sl_Only_limbs, kV_Only_limbs, dc_Only_limbs, pm_Only_limbs, an_Only_limbs, cd_Only_limbs, ct_Only_limbs, l_Only_limbs, c_Only_limbs⟩ := c.f 28 (d := Far.fa_Only_limbs) rfl
    obtain ⟨oc_Joint_told, od_Joint_told, sl_Joint_told, kV_Joint_told, dc_Joint_told, pm_Joint_told, an_Joint_told, cd_Joint_told, ct_Joint_told, l_Joint_told, c_Joint_told⟩ := c.f 29 (d := Far.fa_Joint_told) rfl
    obtain ⟨oc_Flipped_told, od_Flipped_told, sl_Flipped_told, kV_Flipped_told, dc_Flipped_told, pm_Flipped_told, an_Flipped_told, cd_Flipped_told, ct_Flipped_told, l_Flipped_told, c_Flipped_told⟩ := c.f 30 (d := Far.fa_Flipped_told) rfl
    obtain ⟨oc_Shifted_told, od_Shifted_told, sl_Shifted_told, kV_Shifted_told, dc_Shifted_told, pm_Shifted_told, an_Shifted_told, cd_Shifted_told, ct_Shifted_told, l_Shifted_told, c_Shifted_told⟩ := c.f 31 (d := Far.fa_Shifted_told) rfl
    obtain ⟨oc_Only_told, od_Only_told, sl_Only_told, kV_Only_told, dc_Only_told, pm_Only_told, an_Only_told, cd_Only_told, ct_Only_told, l_Only_told, c_Only_told⟩ := c.f 32 (d := Far.fa_Only_told) rfl
    obtain ⟨oc_Shifted_limbs, od_Shifted_limbs, sl_Shifted_limbs, kV_Shifted_limbs, dc_Shifted_limbs, pm_Shifted_limbs, an_Shifted_limbs, cd_Shifted_limbs, ct_Shifted_limbs, l_Shifted_limbs, c_Shifted_limbs⟩ := c.f 33 (d := Far.fa_Shifted_limbs) rfl
    obtain ⟨oc_Flipped_limbs, od_Flipped_limbs, sl_Flipped_limbs, kV_Flipped_limbs, dc_Flipped_limbs, pm_Flipped_limbs, an_Flipped_limbs, cd_Flipped_limbs, ct_Flipped_limbs, l_Flipped_limbs, c_Flipped_limbs⟩ := c.f 34 (d := Far.fa_Flipped_limbs) rfl
    obtain ⟨oc_Joint_limbs, od_Joint_limbs, sl_Joint_limbs, kV_Joint_limbs, dc_Joint_limbs, pm_Joint_limbs, an_Joint_limbs, cd_Joint_limbs, ct_Joint_limbs, l_Joint_limbs, c_Joint_limbs⟩ := c.f 35 (d := Far.fa_Joint_limbs) rfl
    obtain ⟨oc_all_parts, od_all_parts, sl_all_parts, kV_all_parts, dc_all_parts, pm_all_parts, an_all_parts, cd_all_parts, ct_all_parts, l_all_parts, c_all_parts⟩ := c.f 36 (d := Far.fa_all_parts) rfl
    obtain ⟨oc_names_in, od_names_in, sl_names_in, kV_names_in, dc_names_in, pm_names_in, an_names_in, cd_names_in, ct_names_in, l_names_in, c_names_in⟩ := c.f 37 (d := Far.fa_names_in) rfl
    obtain ⟨oc_parts_in, od_parts_in, sl_parts_in, kV_parts_in, dc_parts_in, pm_parts_in, an_parts_in, cd_parts_in, ct_parts_in, l_parts_in, c_parts_in⟩ := c.f 38 (d := Far.fa_parts_in) rfl
    obtain ⟨oc_l_cell, od_l_cell, sl_l_cell, kV_l_cell, dc_l_cell, pm_l_cell, an_l_cell, cd_l_cell, ct_l_cell, l_l_cell, c_l_cell⟩ := c.f 39 (d := Far.fa_l_cell) rfl
    obtain ⟨oc_l_value, od_l_value, sl_l_value, kV_l_value, dc_l_value, pm_l_value, an_l_value, cd_l_value, ct_l_value, l_l_value, c_l_value⟩ := c.f 40 (d := Far.fa_l_value) rfl
    obtain ⟨oc_l_word_of, od_l_word_of, sl_l_word_of, kV_l_word_of, dc_l_word_of, pm_l_word_of, an_l_word_of, cd_l_word_of, ct_l_word_of, l_l_word_of, c_l_word_of⟩ := c.f 41 (d := Far.fa_l_word_of) rfl
    obtain ⟨oc_l_titles, od_l_titles, sl_l_titles, kV_l_titles, dc_l_titles, pm_l_titles, an_l_titles, cd_l_titles, ct_l_titles, l_l_titles, c_l_titles⟩ := c.f 42 (d := Far.fa_l_titles) rfl
    obtain ⟨oc_l_names, od_l_names, sl_l_names, kV_l_names, dc_l_names, pm_l_names, an_l_names, cd_l_names, ct_l_names, l_l_names, c_l_names⟩ := c.f 43 (d := Far.fa_l_names) rfl
    obtain ⟨oc_l_near_span, od_l_near_span, sl_l_near_span, kV_l_near_span, dc_l_near_span, pm_l_near_span, an_l_near_span, cd_l_near_span, ct_l_near_span, l_l_near_span, c_l_near_span⟩ := c.f 44 (d := Far.fa_l_near_span) rfl
    obtain ⟨oc_l_tree, od_l_tree, sl_l_tree, kV_l_tree, dc_l_tree, pm_l_tree, an_l_tree, cd_l_tree, ct_l_tree, l_l_tree, c_l_tree⟩ := c.f 45 (d := Far.fa_l_tree) rfl
    obtain ⟨oc_l_made, od_l_made, sl_l_made, kV_l_made, dc_l_made, pm_l_made, an_l_made, cd_l_made, ct_l_made, l_l_made, c_l_made⟩ := c.f 46 (d := Far.fa_l_made) rfl
    obtain ⟨oc_l_kinds, od_l_kinds, sl_l_kinds, kV_l_kinds, dc_l_kinds, pm_l_kinds, an_l_kinds, cd_l_kinds, ct_l_kinds, l_l_kinds, c_l_kinds⟩ := c.f 47 (d := Far.fa_l_kinds) rfl
    obtain ⟨oc_l_names_of, od_l_names_of, sl_l_names_of, kV_l_names_of, dc_l_names_of, pm_l_names_of, an_l_names_of, cd_l_names_of, ct_l_names_of, l_l_names_of, c_l_names_of⟩ := c.f 48 (d := Far.fa_l_names_of) rfl
    obtain ⟨oc_l_fields_right, od_l_fields_right, sl_l_fields_right, kV_l_fields_right, dc_l_fields_right, pm_l_fields_right, an_l_fields_right, cd_l_fields_right, ct_l_fields_right, l_l_fields_right, c_l_fields_right⟩ := c.f 49 (d := Far.fa_l_fields_right) rfl
    obtain ⟨oc_l_odd_name, od_l_odd_name, sl_l_odd_name, kV_l_odd_name, dc_l_odd_name, pm_l_odd_name, an_l_odd_name, cd_l_odd_name, ct_l_odd_name, l_l_odd_name, c_l_odd_name⟩ := c.f 50 (d := Far.fa_l_odd_name) rfl
    obtain ⟨oc_l_is_name, od_l_is_name, sl_l_is_name, kV_l_is_name, dc_l_is_name, pm_l_is_name, an_l_is_name, cd_l_is_name, ct_l_is_name, l_l_is_name, c_l_is_name⟩ := c.f 51 (d := Far.fa_l_is_name) rfl
    obtain ⟨oc_l_wrong, od_l_wrong, sl_l_wrong, kV_l_wrong, dc_l_wrong, pm_l_wrong, an_l_wrong, cd_l_wrong, ct_l_wrong, l_l_wrong, c_l_wrong⟩ := c.f 52 (d := Far.fa_l_wrong) rfl
    obtain ⟨oc_l_deep_tree, od_l_deep_tree, sl_l_deep_tree, kV_l_deep_tree, dc_l_deep_tree, pm_l_deep_tree, an_l_deep_tree, cd_l_deep_tree, ct_l_deep_tree, l_l_deep_tree, c_l_deep_tree⟩ := c.f 53 (d := Far.fa_l_deep_tree) rfl
    obtain ⟨oc_l_twice_right, od_l_twice_right, sl_l_twice_right, kV_l_twice_right, dc_l_twice_right, pm_l_twice_right, an_l_twice_right, cd_l_twice_right, ct_l_twice_right, l_l_twice_right, c_l_twice_right⟩ := c.f 54 (d := Far.fa_l_twice_right) rfl
    obtain ⟨oc_law, od_law, sl_law, kV_law, dc_law, pm_law, an_law, cd_law, ct_law, l_law, c_law⟩ := c.f 55 (d := Far.fa_law) rfl
    obtain ⟨tk_z_MOST_LETTERS, z_MOST_LETTERS⟩ := FarH.isI_ok (q7.2.2.2.2.2.2.2.2.2.2.2.2.2.2.2.1)
    obtain ⟨tk_z_SMALL, z_SMALL⟩ := FarH.isS_ok (q7.2.2.2.2.2.2.2.2.2.2.2.2.2.2.2.2.1)
    obtain ⟨ko_OWN_WORDS, kl_OWN_WORDS, km_OWN_WORDS⟩ := FarH.isT_ok (q7.2.2.2.2.2.2.2.2.2.2.2.2.2.2.2.2.2.2.1)
    have z := Far.all_mk (l := PySem.Challenge.rw_farrows_k91_trees_made) (w := w) KX G hmg (q0.1) (q0.2.1) (q0.2.2.1) (q0.2.2.2.1) (q0.2.2.2.2.1) (q0.2.2.2.2.2.1) (q0.2.2.2.2.2.2.1) (q0.2.2.2.2.2.2.2.1) (q0.2.2.2.2.2.2.2.2.1) (q0.2.2.2.2.2.2.2.2.2.1) (q0.2.2.2.2.2.2.2.2.2.2.1) (q0.2.2.2.2.2.2.2.2.2.2.2.1) (q0.2.2.2.2.2.2.2.2.2.2.2.2.1) (q0.2.2.2.2.2.2.2.2.2.2.2.2.2.1) (q0.2.2.2.2.2.2.2.2.2.2.2.2.2.2.1) (q0.2.2.2.2.2.2.2.2.2.2.2.2.2.2.2.1) (q0.2.2.2.2.2.2.2.2.2.2.2.2.2.2.2.2.1) (q0.2.2.2.2.2.2.2.2.2.2.2.2.2.2.2.2.2.1) (q0.2.2.2.2.2.2.2.2.2.2.2.2.2.2.2.2.2.2.1) (q0.2.2.2.2.2.2.2.2.2.2.2.2.2.2.2.2.2.2.2.1) (q0.2.2.2.2.2.2.2.2.2.2.2.2.2.2.2.2.2.2.2.2.1) (q0.2.2.2.2.2.2.2.2.2.2.2.2.2.2.2.2.2.2.2.2.2.1) (q0.2.2.2.2.2.2.2.2.2.2.2.2.2.2.2.2.2.2.2.2.2.2.1) (q0.2.2.2.2.2.2.2.2.2.2.2.2.2.2.2.2.2.2.2.2.2.2.2) (q1.1) (q1.2.1) (q1.2.2.1) (q1.2.2.2.1) (q1.2.2.2.2.1) (q1.2.2.2.2.2.1) (q1.2.2.2.2.2.2.1) (q1.2.2.2.2.2.2.2.1) (q1.2.2.2.2.2.2.2.2.1) l_Rule_rule_word c_Rule_rule_word (q1.2.2.2.2.2.2.2.2.2.1) (q1.2.2.2.2.2.2.2.2.2.2.1) (q1.2.2.2.2.2.2.2.2.2.2.2.1) l_Over_rule_word c_Over_rule_word (q1.2.2.2.2.2.2.2.2.2.2.2.2.1) (q1.2.2.2.2.2.2.2.2.2.2.2.2.2.1) (q1.2.2.2.2.2.2.2.2.2.2.2.2.2.2.1) l_Where_rule_word c_Where_rule_word (q1.2.2.2.2.2.2.2.2.2.2.2.2.2.2.2.1) (q1.2.2.2.2.2.2.2.2.2.2.2.2.2.2.2.2.1) (q1.2.2.2.2.2.2.2.2.2.2.2.2.2.2.2.2.2.1) l_Without_rule_word c_Without_rule_word (q1.2.2.2.2.2.2.2.2.2.2.2.2.2.2.2.2.2.2.1) (q1.2.2.2.2.2.2.2.2.2.2.2.2.2.2.2.2.2.2.2.1) (q1.2.2.2.2.2.2.2.2.2.2.2.2.2.2.2.2.2.2.2.2.1) l_Sum_rule_word c_Sum_rule_word (q1.2.2.2.2.2.2.2.2.2.2.2.2.2.2.2.2.2.2.2.2.2.1) (q1.2.2.2.2.2.2.2.2.2.2.2.2.2.2.2.2.2.2.2.2.2.2.1) (q1.2.2.2.2.2.2.2.2.2.2.2.2.2.2.2.2.2.2.2.2.2.2.2) l_Less_rule_word c_Less_rule_word (q2.1) (q2.2.1) (q2.2.2.1) l_Least_rule_word c_Least_rule_word (q2.2.2.2.1) (q2.2.2.2.2.1) (q2.2.2.2.2.2.1) l_Greatest_rule_word c_Greatest_rule_word (q2.2.2.2.2.2.2.1) (q2.2.2.2.2.2.2.2.1) (q2.2.2.2.2.2.2.2.2.1) l_Same_rule_word c_Same_rule_word (q2.2.2.2.2.2.2.2.2.2.1) (q2.2.2.2.2.2.2.2.2.2.2.1) l_all_rules c_all_rules (q2.2.2.2.2.2.2.2.2.2.2.2.1) (q2.2.2.2.2.2.2.2.2.2.2.2.2.1) l_is_kept c_is_kept (q2.2.2.2.2.2.2.2.2.2.2.2.2.2.1) (q2.2.2.2.2.2.2.2.2.2.2.2.2.2.2.1) l_is_name c_is_name (q2.2.2.2.2.2.2.2.2.2.2.2.2.2.2.2.1) (q2.2.2.2.2.2.2.2.2.2.2.2.2.2.2.2.2.1) l_need_fit c_need_fit (q2.2.2.2.2.2.2.2.2.2.2.2.2.2.2.2.2.2.1) (q2.2.2.2.2.2.2.2.2.2.2.2.2.2.2.2.2.2.2.1) (q2.2.2.2.2.2.2.2.2.2.2.2.2.2.2.2.2.2.2.2.1) l_Named_init c_Named_init (q2.2.2.2.2.2.2.2.2.2.2.2.2.2.2.2.2.2.2.2.2.1) (q2.2.2.2.2.2.2.2.2.2.2.2.2.2.2.2.2.2.2.2.2.2.1) l_is_place c_is_place (q2.2.2.2.2.2.2.2.2.2.2.2.2.2.2.2.2.2.2.2.2.2.2.1) (q2.2.2.2.2.2.2.2.2.2.2.2.2.2.2.2.2.2.2.2.2.2.2.2) l_is_value c_is_value (q3.1) (q3.2.1) (q3.2.2.1) l_Flat_init c_Flat_init (q3.2.2.2.1) (q3.2.2.2.2.1) l_is_span c_is_span (q3.2.2.2.2.2.1) (q3.2.2.2.2.2.2.1) (q3.2.2.2.2.2.2.2.1) l_Only_init c_Only_init (q3.2.2.2.2.2.2.2.2.1) (q3.2.2.2.2.2.2.2.2.2.1) (q3.2.2.2.2.2.2.2.2.2.2.1) l_Shifted_init c_Shifted_init (q3.2.2.2.2.2.2.2.2.2.2.2.1) (q3.2.2.2.2.2.2.2.2.2.2.2.2.1) (q3.2.2.2.2.2.2.2.2.2.2.2.2.2.1) l_Flipped_init c_Flipped_init (q3.2.2.2.2.2.2.2.2.2.2.2.2.2.2.1) (q3.2.2.2.2.2.2.2.2.2.2.2.2.2.2.2.1) l_rule_by c_rule_by (q3.2.2.2.2.2.2.2.2.2.2.2.2.2.2.2.2.1) (q3.2.2.2.2.2.2.2.2.2.2.2.2.2.2.2.2.2.1) (q3.2.2.2.2.2.2.2.2.2.2.2.2.2.2.2.2.2.2.1) l_Joint_init c_Joint_init (q3.2.2.2.2.2.2.2.2.2.2.2.2.2.2.2.2.2.2.2.1) (q3.2.2.2.2.2.2.2.2.2.2.2.2.2.2.2.2.2.2.2.2.1) (q3.2.2.2.2.2.2.2.2.2.2.2.2.2.2.2.2.2.2.2.2.2.1) l_Tree_limbs c_Tree_limbs (q3.2.2.2.2.2.2.2.2.2.2.2.2.2.2.2.2.2.2.2.2.2.2.1) (q3.2.2.2.2.2.2.2.2.2.2.2.2.2.2.2.2.2.2.2.2.2.2.2) (q4.1) l_Tree_own_names c_Tree_own_names (q4.2.1) (q4.2.2.1) (q4.2.2.2.1) l_Named_own_names c_Named_own_names (q4.2.2.2.2.1) (q4.2.2.2.2.2.1) (q4.2.2.2.2.2.2.1) l_Named_told c_Named_told (q4.2.2.2.2.2.2.2.1) (q4.2.2.2.2.2.2.2.2.1) (q4.2.2.2.2.2.2.2.2.2.1) l_Flat_told c_Flat_told (q4.2.2.2.2.2.2.2.2.2.2.1) (q4.2.2.2.2.2.2.2.2.2.2.2.1) (q4.2.2.2.2.2.2.2.2.2.2.2.2.1) l_Only_limbs c_Only_limbs (q4.2.2.2.2.2.2.2.2.2.2.2.2.2.1) (q4.2.2.2.2.2.2.2.2.2.2.2.2.2.2.1) (q4.2.2.2.2.2.2.2.2.2.2.2.2.2.2.2.1) l_Joint_told c_Joint_told (q4.2.2.2.2.2.2.2.2.2.2.2.2.2.2.2.2.1) (q4.2.2.2.2.2.2.2.2.2.2.2.2.2.2.2.2.2.1) (q4.2.2.2.2.2.2.2.2.2.2.2.2.2.2.2.2.2.2.1) l_Flipped_told c_Flipped_told (q4.2.2.2.2.2.2.2.2.2.2.2.2.2.2.2.2.2.2.2.1) (q4.2.2.2.2.2.2.2.2.2.2.2.2.2.2.2.2.2.2.2.2.1) (q4.2.2.2.2.2.2.2.2.2.2.2.2.2.2.2.2.2.2.2.2.2.1) l_Shifted_told c_Shifted_told (q4.2.2.2.2.2.2.2.2.2.2.2.2.2.2.2.2.2.2.2.2.2.2.1) (q4.2.2.2.2.2.2.2.2.2.2.2.2.2.2.2.2.2.2.2.2.2.2.2) (q5.1) l_Only_told c_Only_told (q5.2.1) (q5.2.2.1) (q5.2.2.2.1) l_Shifted_limbs c_Shifted_limbs (q5.2.2.2.2.1) (q5.2.2.2.2.2.1) (q5.2.2.2.2.2.2.1) l_Flipped_limbs c_Flipped_limbs (q5.2.2.2.2.2.2.2.1) (q5.2.2.2.2.2.2.2.2.1) (q5.2.2.2.2.2.2.2.2.2.1) l_Joint_limbs c_Joint_limbs (q5.2.2.2.2.2.2.2.2.2.2.1) (q5.2.2.2.2.2.2.2.2.2.2.2.1) l_all_parts c_all_parts (q5.2.2.2.2.2.2.2.2.2.2.2.2.1) (q5.2.2.2.2.2.2.2.2.2.2.2.2.2.1) l_names_in c_names_in (q5.2.2.2.2.2.2.2.2.2.2.2.2.2.2.1) (q5.2.2.2.2.2.2.2.2.2.2.2.2.2.2.2.1) l_parts_in c_parts_in (q5.2.2.2.2.2.2.2.2.2.2.2.2.2.2.2.2.1) (q5.2.2.2.2.2.2.2.2.2.2.2.2.2.2.2.2.2.1) l_l_cell c_l_cell (q5.2.2.2.2.2.2.2.2.2.2.2.2.2.2.2.2.2.2.1) (q5.2.2.2.2.2.2.2.2.2.2.2.2.2.2.2.2.2.2.2.1) l_l_value c_l_value (q5.2.2.2.2.2.2.2.2.2.2.2.2.2.2.2.2.2.2.2.2.1) (q5.2.2.2.2.2.2.2.2.2.2.2.2.2.2.2.2.2.2.2.2.2.1) l_l_word_of c_l_word_of (q5.2.2.2.2.2.2.2.2.2.2.2.2.2.2.2.2.2.2.2.2.2.2.1) (q5.2.2.2.2.2.2.2.2.2.2.2.2.2.2.2.2.2.2.2.2.2.2.2) l_l_titles c_l_titles (q6.1) (q6.2.1) l_l_names c_l_names (q6.2.2.1) (q6.2.2.2.1) l_l_near_span c_l_near_span (q6.2.2.2.2.1) (q6.2.2.2.2.2.1) l_l_tree c_l_tree (q6.2.2.2.2.2.2.1) (q6.2.2.2.2.2.2.2.1) l_l_made c_l_made (q6.2.2.2.2.2.2.2.2.1) (q6.2.2.2.2.2.2.2.2.2.1) l_l_kinds c_l_kinds (q6.2.2.2.2.2.2.2.2.2.2.1) (q6.2.2.2.2.2.2.2.2.2.2.2.1) l_l_names_of c_l_names_of (q6.2.2.2.2.2.2.2.2.2.2.2.2.1) (q6.2.2.2.2.2.2.2.2.2.2.2.2.2.1) l_l_fields_right c_l_fields_right (q6.2.2.2.2.2.2.2.2.2.2.2.2.2.2.1) (q6.2.2.2.2.2.2.2.2.2.2.2.2.2.2.2.1) l_l_odd_name c_l_odd_name (q6.2.2.2.2.2.2.2.2.2.2.2.2.2.2.2.2.1) (q6.2.2.2.2.2.2.2.2.2.2.2.2.2.2.2.2.2.1) l_l_is_name c_l_is_name (q6.2.2.2.2.2.2.2.2.2.2.2.2.2.2.2.2.2.2.1) (q6.2.2.2.2.2.2.2.2.2.2.2.2.2.2.2.2.2.2.2.1) l_l_wrong c_l_wrong (q6.2.2.2.2.2.2.2.2.2.2.2.2.2.2.2.2.2.2.2.2.1) (q6.2.2.2.2.2.2.2.2.2.2.2.2.2.2.2.2.2.2.2.2.2.1) l_l_deep_tree c_l_deep_tree (q6.2.2.2.2.2.2.2.2.2.2.2.2.2.2.2.2.2.2.2.2.2.2.1) (q6.2.2.2.2.2.2.2.2.2.2.2.2.2.2.2.2.2.2.2.2.2.2.2) l_l_twice_right c_l_twice_right (q7.1) (q7.2.1) l_law c_law (q7.2.2.1) (q7.2.2.2.1) (q7.2.2.2.2.1) (q7.2.2.2.2.2.1) (q7.2.2.2.2.2.2.1) (q7.2.2.2.2.2.2.2.1) (q7.2.2.2.2.2.2.2.2.1) (q7.2.2.2.2.2.2.2.2.2.1) (q7.2.2.2.2.2.2.2.2.2.2.1) (q7.2.2.2.2.2.2.2.2.2.2.2.1) (q7.2.2.2.2.2.2.2.2.2.2.2.2.1) (q7.2.2.2.2.2.2.2.2.2.2.2.2.2.1) (q7.2.2.2.2.2.2.2.2.2.2.2.2.2.2.1) z_MOST_LETTERS z_SMALL (q7.2.2.2.2.2.2.2.2.2.2.2.2.2.2.2.2.2.1) kl_OWN_WORDS km_OWN_WORDS (q7.2.2.2.2.2.2.2.2.2.2.2.2.2.2.2.2.2.2.2.1) (q7.2.2.2.2.2.2.2.2.2.2.2.2.2.2.2.2.2.2.2.2.1) (q7.2.2.2.2.2.2.2.2.2.2.2.2.2.2.2.2.2.2.2.2.2.1) (q7.2.2.2.2.2.2.2.2.2.2.2.2.2.2.2.2.2.2.2.2.2.2.1) (q7.2.2.2.2.2.2.2.2.2.2.2.2.2.2.2.2.2.2.2.2.2.2.2) (q8.1) (q8.2.1) (q8.2.2.1) (q8.2.2.2.1) (q8.2.2.2.2.1) (q8.2.2.2.2.2.1) (q8.2.2.2.2.2.2.1) (q8.2.2.2.2.2.2.2.1) (q8.2.2.2.2.2.2.2.2.1) (q8.2.2.2.2.2.2.2.2.2.1) (q8.2.2.2.2.2.2.2.2.2.2.1) (q8.2.2.2.2.2.2.2.2.2.2.2.1) (q8.2.2.2.2.2.2.2.2.2.2.2.2.1) (q8.2.2.2.2.2.2.2.2.2.2.2.2.2.1) (q8.2.2.2.2.2.2.2.2.2.2.2.2.2.2.1) (q8.2.2.2.2.2.2.2.2.2.2.2.2.2.2.2.1) (q8.2.2.2.2.2.2.2.2.2.2.2.2.2.2.2.2.1) (q8.2.2.2.2.2.2.2.2.2.2.2.2.2.2.2.2.2.1) (q8.2.2.2.2.2.2.2.2.2.2.2.2.2.2.2.2.2.2.1) (q8.2.2.2.2.2.2.2.2.2.2.2.2.2.2.2.2.2.2.2.1) (q8.2.2.2.2.2.2.2.2.2.2.2.2.2.2.2.2.2.2.2.2.1) (q8.2.2.2.2.2.2.2.2.2.2.2.2.2.2.2.2.2.2.2.2.2.1) (q8.2.2.2.2.2.2.2.2.2.2.2.2.2.2.2.2.2.2.2.2.2.2.1) (q8.2.2.2.2.2.2.2.2.2.2.2.2.2.2.2.2.2.2.2.2.2.2.2) (q9.1) (q9.2.1) (q9.2.2.1) (q9.2.2.2.1) (q9.2.2.2.2.1) (q9.2.2.2.2.2.1) (q9.2.2.2.2.2.2.1) (q9.2.2.2.2.2.2.2.1) (q9.2.2.2.2.2.2.2.2.1) (q9.2.2.2.2.2.2.2.2.2.1) (q9.2.2.2.2.2.2.2.2.2.2.1) (q9.2.2.2.2.2.2.2.2.2.2.2.1) (q9.2.2.2.2.2.2.2.2.2.2.2.2.1) (q9.2.2.2.2.2.2.2.2.2.2.2.2.2.1) (q9.2.2.2.2.2.2.2.2.2.2.2.2.2.2.1) (q9.2.2.2.2.2.2.2.2.2.2.2.2.2.2.2.1) (q9.2.2.2.2.2.2.2.2.2.2.2.2.2.2.2.2.1) (q9.2.2.2.2.2.2.2.2.2.2.2.2.2.2.2.2.2.1) (q9.2.2.2.2.2.2.2.2.2.2.2.2.2.2.2.2.2.2.1) (q9.2.2.2.2.2.2.2.2.2.2.2.2.2.2.2.2.2.2.2.1) (q9.2.2.2.2.2.2.2.2.2.2.2.2.2.2.2.2.2.2.2.2.1) (q9.2.2.2.2.2.2.2.2.2.2.2.2.2.2.2.2.2.2.2.2.2.1) (q9.2.2.2.2.2.2.2.2.2.2.2.2.2.2.2.2.2.2.2.2.2.2.1) (q9.2.2.2.2.2.2.2.2.2.2.2.2.2.2.2.2.2.2.2.2.2.2.2) (q10.1) (q10.2.1) (q10.2.2.1) (q10.2.2.2.1) (q10.2.2.2.2.1) (q10.2.2.2.2.2.1) (q10.2.2.2.2.2.2.1) (q10.2.2.2.2.2.2.2.1) (q10.2.2.2.2.2.2.2.2.1) (q10.2.2.2.2.2.2.2.2.2.1) (q10.2.2.2.2.2.2.2.2.2.2.1) (q10.2.2.2.2.2.2.2.2.2.2.2.1) (q10.2.2.2.2.2.2.2.2.2.2.2.2.1) (q10.2.2.2.2.2.2.2.2.2.2.2.2.2.1) (q10.2.2.2.2.2.2.2.2.2.2.2.2.2.2.1) (q10.2.2.2.2.2.2.2.2.2.2.2.2.2.2.2.1) (q10.2.2.2.2.2.2.2.2.2.2.2.2.2.2.2.2.1) (q10.2.2.2.2.2.2.2.2.2.2.2.2.2.2.2.2.2.1) (q10.2.2.2.2.2.2.2.2.2.2.2.2.2.2.2.2.2.2.1) (q10.2.2.2.2.2.2.2.2.2.2.2.2.2.2.2.2.2.2.2.1) (q10.2.2.2.2.2.2.2.2.2.2.2.2.2.2.2.2.2.2.2.2.1) (q10.2.2.2.2.2.2.2.2.2.2.2.2.2.2.2.2.2.2.2.2.2.1) (q10.2.2.2.2.2.2.2.2.2.2.2.2.2.2.2.2.2.2.2.2.2.2.1) (q10.2.2.2.2.2.2.2.2.2.2.2.2.2.2.2.2.2.2.2.2.2.2.2) (q11.1) (q11.2.1) (q11.2.2.1) (q11.2.2.2.1) (q11.2.2.2.2.1) (q11.2.2.2.2.2.1) (q11.2.2.2.2.2.2.1) (q11.2.2.2.2.2.2.2.1) (q11.2.2.2.2.2.2.2.2.1) (q11.2.2.2.2.2.2.2.2.2.1) (q11.2.2.2.2.2.2.2.2.2.2.1) (q11.2.2.2.2.2.2.2.2.2.2.2.1) (q11.2.2.2.2.2.2.2.2.2.2.2.2.1) (q11.2.2.2.2.2.2.2.2.2.2.2.2.2.1) (q11.2.2.2.2.2.2.2.2.2.2.2.2.2.2.1) (q11.2.2.2.2.2.2.2.2.2.2.2.2.2.2.2.1) (q11.2.2.2.2.2.2.2.2.2.2.2.2.2.2.2.2.1) (q11.2.2.2.2.2.2.2.2.2.2.2.2.2.2.2.2.2.1) (q11.2.2.2.2.2.2.2.2.2.2.2.2.2.2.2.2.2.2.1) (q11.2.2.2.2.2.2.2.2.2.2.2.2.2.2.2.2.2.2.2.1) (q11.2.2.2.2.2.2.2.2.2.2.2.2.2.2.2.2.2.2.2.2.1) (q11.2.2.2.2.2.2.2.2.2.2.2.2.2.2.2.2.2.2.2.2.2.1) (q11.2.2.2.2.2.2.2.2.2.2.2.2.2.2.2.2.2.2.2.2.2.2.1) (q11.2.2.2.2.2.2.2.2.2.2.2.2.2.2.2.2.2.2.2.2.2.2.2) (q12.1) (q12.2.1) (q12.2.2.1) (q12.2.2.2.1) (q12.2.2.2.2.1) (q12.2.2.2.2.2.1) (q12.2.2.2.2.2.2.1) (q12.2.2.2.2.2.2.2.1) (q12.2.2.2.2.2.2.2.2.1) (q12.2.2.2.2.2.2.2.2.2.1) (q12.2.2.2.2.2.2.2.2.2.2.1) (q12.2.2.2.2.2.2.2.2.2.2.2.1) (q12.2.2.2.2.2.2.2.2.2.2.2.2.1) (q12.2.2.2.2.2.2.2.2.2.2.2.2.2.1) (q12.2.2.2.2.2.2.2.2.2.2.2.2.2.2.1) (q12.2.2.2.2.2.2.2.2.2.2.2.2.2.2.2.1) (q12.2.2.2.2.2.2.2.2.2.2.2.2.2.2.2.2.1) (q12.2.2.2.2.2.2.2.2.2.2.2.2.2.2.2.2.2.1) (q12.2.2.2.2.2.2.2.2.2.2.2.2.2.2.2.2.2.2.1) (q12.2.2.2.2.2.2.2.2.2.2.2.2.2.2.2.2.2.2.2.1) (q12.2.2.2.2.2.2.2.2.2.2.2.2.2.2.2.2.2.2.2.2.1) (q12.2.2.2.2.2.2.2.2.2.2.2.2.2.2.2.2.2.2.2.2.2.1) (q12.2.2.2.2.2.2.2.2.2.2.2.2.2.2.2.2.2.2.2.2.2.2.1) (q12.2.2.2.2.2.2.2.2.2.2.2.2.2.2.2.2.2.2.2.2.2.2.2) (q13.1) (q13.2.1) (q13.2.2.1) (q13.2.2.2.1) (q13.2.2.2.2.1) (q13.2.2.2.2.2.1) (q13.2.2.2.2.2.2.1) (q13.2.2.2.2.2.2.2.1) (q13.2.2.2.2.2.2.2.2.1) (q13.2.2.2.2.2.2.2.2.2.1) (q13.2.2.2.2.2.2.2.2.2.2.1) (q13.2.2.2.2.2.2.2.2.2.2.2.1) (q13.2.2.2.2.2.2.2.2.2.2.2.2.1) (q13.2.2.2.2.2.2.2.2.2.2.2.2.2.1) (q13.2.2.2.2.2.2.2.2.2.2.2.2.2.2.1) (q13.2.2.2.2.2.2.2.2.2.2.2.2.2.2.2.1) (q13.2.2.2.2.2.2.2.2.2.2.2.2.2.2.2.2.1) (q13.2.2.2.2.2.2.2.2.2.2.2.2.2.2.2.2.2.1) (q13.2.2.2.2.2.2.2.2.2.2.2.2.2.2.2.2.2.2.1) (q13.2.2.2.2.2.2.2.2.2.2.2.2.2.2.2.2.2.2.2.1) (q13.2.2.2.2.2.2.2.2.2.2.2.2.2.2.2.2.2.2.2.2.1) (q13.2.2.2.2.2.2.2.2.2.2.2.2.2.2.2.2.2.2.2.2.2.1) (q13.2.2.2.2.2.2.2.2.2.2.2.2.2.2.2.2.2.2.2.2.2.2.1) (q13.2.2.2.2.2.2.2.2.2.2.2.2.2.2.2.2.2.2.2.2.2.2.2) (q14.1) (q14.2.1) (q14.2.2.1) (q14.2.2.2.1) (q14.2.2.2.2.1) (q14.2.2.2.2.2.1) (q14.2.2.2.2.2.2.1) (q14.2.2.2.2.2.2.2.1) (q14.2.2.2.2.2.2.2.2.1) (q14.2.2.2.2.2.2.2.2.2.1) (q14.2.2.2.2.2.2.2.2.2.2.1) (q14.2.2.2.2.2.2.2.2.2.2.2.1) (q14.2.2.2.2.2.2.2.2.2.2.2.2.1) (q14.2.2.2.2.2.2.2.2.2.2.2.2.2.1) (q14.2.2.2.2.2.2.2.2.2.2.2.2.2.2.1) (q14.2.2.2.2.2.2.2.2.2.2.2.2.2.2.2.1) (q14.2.2.2.2.2.2.2.2.2.2.2.2.2.2.2.2.1) (q14.2.2.2.2.2.2.2.2.2.2.2.2.2.2.2.2.2.1) (q14.2.2.2.2.2.2.2.2.2.2.2.2.2.2.2.2.2.2.1) (q14.2.2.2.2.2.2.2.2.2.2.2.2.2.2.2.2.2.2.2.1) (q14.2.2.2.2.2.2.2.2.2.2.2.2.2.2.2.2.2.2.2.2.1) (q14.2.2.2.2.2.2.2.2.2.2.2.2.2.2.2.2.2.2.2.2.2.1) (q14.2.2.2.2.2.2.2.2.2.2.2.2.2.2.2.2.2.2.2.2.2.2.1) (q14.2.2.2.2.2.2.2.2.2.2.2.2.2.2.2.2.2.2.2.2.2.2.2) (q15.1) (q15.2.1) (q15.2.2.1) (q15.2.2.2.1) (q15.2.2.2.2.1) (q15.2.2.2.2.2.1) (q15.2.2.2.2.2.2.1) (q15.2.2.2.2.2.2.2.1) (q15.2.2.2.2.2.2.2.2.1) (q15.2.2.2.2.2.2.2.2.2.1) (q15.2.2.2.2.2.2.2.2.2.2.1) (q15.2.2.2.2.2.2.2.2.2.2.2.1) (q15.2.2.2.2.2.2.2.2.2.2.2.2.1) (q15.2.2.2.2.2.2.2.2.2.2.2.2.2.1) (q15.2.2.2.2.2.2.2.2.2.2.2.2.2.2.1) (q15.2.2.2.2.2.2.2.2.2.2.2.2.2.2.2.1) (q15.2.2.2.2.2.2.2.2.2.2.2.2.2.2.2.2.1) (q15.2.2.2.2.2.2.2.2.2.2.2.2.2.2.2.2.2.1) (q15.2.2.2.2.2.2.2.2.2.2.2.2.2.2.2.2.2.2.1) (q15.2.2.2.2.2.2.2.2.2.2.2.2.2.2.2.2.2.2.2.1) (q15.2.2.2.2.2.2.2.2.2.2.2.2.2.2.2.2.2.2.2.2.1) (q15.2.2.2.2.2.2.2.2.2.2.2.2.2.2.2.2.2.2.2.2.2.1) (q15.2.2.2.2.2.2.2.2.2.2.2.2.2.2.2.2.2.2.2.2.2.2.1) (q15.2.2.2.2.2.2.2.2.2.2.2.2.2.2.2.2.2.2.2.2.2.2.2) (q16.1) (q16.2.1) (q16.2.2.1) (q16.2.2.2.1) (q16.2.2.2.2.1) (q16.2.2.2.2.2.1) (q16.2.2.2.2.2.2.1) (q16.2.2.2.2.2.2.2.1) (q16.2.2.2.2.2.2.2.2.1) (q16.2.2.2.2.2.2.2.2.2.1) (q16.2.2.2.2.2.2.2.2.2.2.1) (q16.2.2.2.2.2.2.2.2.2.2.2.1) (q16.2.2.2.2.2.2.2.2.2.2.2.2.1) (q16.2.2.2.2.2.2.2.2.2.2.2.2.2.1) (q16.2.2.2.2.2.2.2.2.2.2.2.2.2.2.1) (q16.2.2.2.2.2.2.2.2.2.2.2.2.2.2.2.1) (q16.2.2.2.2.2.2.2.2.2.2.2.2.2.2.2.2.1) (q16.2.2.2.2.2.2.2.2.2.2.2.2.2.2.2.2.2.1) (q16.2.2.2.2.2.2.2.2.2.2.2.2.2.2.2.2.2.2.1) (q16.2.2.2.2.2.2.2.2.2.2.2.2.2.2.2.2.2.2.2.1) (q16.2.2.2.2.2.2.2.2.2.2.2.2.2.2.2.2.2.2.2.2.1) (q16.2.2.2.2.2.2.2.2.2.2.2.2.2.2.2.2.2.2.2.2.2.1) (q16.2.2.2.2.2.2.2.2.2.2.2.2.2.2.2.2.2.2.2.2.2.2.1) (q16.2.2.2.2.2.2.2.2.2.2.2.2.2.2.2.2.2.2.2.2.2.2.2) (q17.1) (q17.2.1) (q17.2.2.1) (q17.2.2.2.1) (q17.2.2.2.2.1) (q17.2.2.2.2.2.1) (q17.2.2.2.2.2.2.1) (q17.2.2.2.2.2.2.2.1) (q17.2.2.2.2.2.2.2.2.1) (q17.2.2.2.2.2.2.2.2.2.1) (q17.2.2.2.2.2.2.2.2.2.2.1) (q17.2.2.2.2.2.2.2.2.2.2.2.1) (q17.2.2.2.2.2.2.2.2.2.2.2.2.1) (q17.2.2.2.2.2.2.2.2.2.2.2.2.2.1) (q17.2.2.2.2.2.2.2.2.2.2.2.2.2.2.1) (q17.2.2.2.2.2.2.2.2.2.2.2.2.2.2.2.1) (q17.2.2.2.2.2.2.2.2.2.2.2.2.2.2.2.2.1) (q17.2.2.2.2.2.2.2.2.2.2.2.2.2.2.2.2.2.1) (q17.2.2.2.2.2.2.2.2.2.2.2.2.2.2.2.2.2.2.1) (q17.2.2.2.2.2.2.2.2.2.2.2.2.2.2.2.2.2.2.2.1) (q17.2.2.2.2.2.2.2.2.2.2.2.2.2.2.2.2.2.2.2.2.1) (q17.2.2.2.2.2.2.2.2.2.2.2.2.2.2.2.2.2.2.2.2.2.1) (q17.2.2.2.2.2.2.2.2.2.2.2.2.2.2.2.2.2.2.2.2.2.2.1) (q17.2.2.2.2.2.2.2.2.2.2.2.2.2.2.2.2.2.2.2.2.2.2.2) (by decide +kernel)
    obtain ⟨fd, hb, hF⟩ := z
    exact ⟨K, fd, Far.spD K Far.R_law, KX, hb, fun H a ns hl _ hS => Far.law_asks hl hS (Far.tab_none (Far.tabs_noTab (q18))) fun _ => rfl, hF⟩

