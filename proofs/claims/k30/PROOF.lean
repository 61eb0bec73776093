import PyProof.Rows.All
import Wide.All
import OpenK.AllK
import Wide.FinOn
import HandS.Base
import HandS.Call
import HandS.List
import HandS.Comp
import HandS.Words
import HandS.Exc
import HandS.Lambda
import HandS.ExcOwn
import HandS.Iter
import HandS.Slots
import KE.KStateDown
import HandS.Head0
import HandS.Head1
import HandS.Head2
import HandS.HeadHook1
import HandS.HeadHook2
import HandS.HeadHook4
import HandS.Zip
import HandS.Dict
import HandS.WordsExc
import HandS.Star
import HandS.TupAny
import HandS.Text
import HandS.Wide
import HandS.IsInst
import HandS.SortInts
import HandS.Deep
import HandS.RaiseMore
import HandS.Style
import PyProof.ReprRoads
import HandS.Ends
import HandS.Conv
import HandS.Strs
import HandS.SetFor
import KE.KRevSl
import KE.GoesEnum
import HandS.TupLe
import KE.DataMinKey
import HandS.Property
import HandS.ExcField
import PyProof.ExcBaseAll.IndexError
import PyProof.ExcBaseAll.OverflowError
import PyProof.ExcBaseAll.ArithmeticError
import PyProof.ExcBaseAll.LookupError
import PyProof.ExcBaseAll.RuntimeError
import HandS.DictComp
import HandS.ListItems
import HandS.Keys
import KE.KCallOwn
import HandS.OwnEq
import KE.KOpsOwn
import HandS.SlotsOwn
import HandS.Defaults
import HandS.FStr
import KE.GoesMore
import PyProof.EnumFor
import HandS.TupSets
import HandS.EndTab
import HandS.TupMul
import HandS.TryOnly
import KE.DatumOrd
import HandS.SortRule
import KE.DataMinMax
import KE.KEqNest
import HandS.ListEq
import HandS.DictEq
import HandS.DeepEq
import HandS.Flow
import KE.KDictZip
import KE.KTupSum
import HandS.OwnIter
import HandS.IterVal
import HandS.ClsMeth
import HandS.HeadNt
import KE.IntTextLaws
import PyProof.NeKinds
import KE.KStar
import HandS.Small
import PySem.Challenge.RW_chainpacks_k30_errors_of_rules
set_option Elab.async false
set_option linter.all false
set_option maxRecDepth 100000
set_option maxHeartbeats 4000000
/-! DL0: what a law's end asks of the head that is run once (nothing of the data layer is needed for it). -/
namespace DL
open PySem PySem.Spec PyProof.Rows L2
def ownTys : List String := ["NoneType", "bool", "int", "str", "list", "tuple", "dict"]
/-- what the written part says of an own class and the built-in ones -/
def kitAll (K : PySem.W.Frag) (C : Addr) : Bool := ownTys.all fun t => decide (PySem.W.kitOne K (.type t) (.ref C) = some false)
def insTyB (K : PySem.W.Frag) (C : Addr) : Bool := PySem.W.plainGet K C Str.empty && (PySem.W.hasDictIn K C && (PySem.W.plainOver K C && (decide (PySem.W.findIn K (.ref C) "__setattr__" = some (some (.builtin "object.__setattr__"))) && (decide (PySem.W.findIn K (.ref C) "__class__" = some (some (.builtin "object.__class__"))) &&
  (decide (PySem.W.specialIn K (.builtin "object.__class__") "__get__" = some (some (.builtin "getset_descriptor.__get__"))) && (decide (PySem.W.takesIn K (.builtin "object.__class__") = some true) && decide (PySem.W.mroIn K C (.type "object") = some true)))))))
structure FD where
  at_ : PySem.W.Frag → Addr
  name : Str
  qual : Str
  params : Arguments
  body : List Stmt
  scope : Scope
def fnV (K : PySem.W.Frag) (a : Addr) : He.FnW := match K.lookup a with
  | some ⟨_, _, .func fd, _⟩ => some (fd.name, fd.qualname, fd.params, fd.body, fd.scope, fd.globals, fd.closure, fd.builtins)
  | _ => none
def FD.val (d : FD) : He.FnW := some (d.name, d.qual, d.params, .stmts d.body, d.scope, mainGlobals, [], builtinsNs)
def funOf (K : PySem.W.Frag) (a : Addr) : Option FuncData := match K.lookup a with
  | some ⟨_, _, .func fd, _⟩ => some fd
  | _ => none
theorem fn_look {K : PySem.W.Frag} {a : Addr} {n q : Str} {ps : Arguments} {b : List Stmt} {sc : Scope} (e : fnV K a = some (n, q, ps, .stmts b, sc, mainGlobals, [], builtinsNs)) :
    ∃ oc od dV kV dc pm an cd ct sl, K.lookup a = some ⟨oc, od, .func (PySem.W.fnOf n q ps b sc dV kV dc pm an cd ct), sl⟩ ∧ funOf K a = some (PySem.W.fnOf n q ps b sc dV kV dc pm an cd ct) := by
  unfold fnV at e
  unfold funOf
  cases l : K.lookup a with
  | none => rw [l] at e; cases e
  | some o =>
    obtain ⟨oc, od, dt, osl⟩ := o
    rw [l] at e
    cases dt with
    | func fd =>
      obtain ⟨n1, n2, n3, n4, n5, n6, n7, n8, n9, n10, n11, n12, n13, n14, n15⟩ := fd
      have e2 : (some (n1, n2, n3, n4, n5, n6, n7, n15) : He.FnW) = some (n, q, ps, .stmts b, sc, mainGlobals, [], builtinsNs) := e
      simp only [Option.some.injEq, Prod.mk.injEq] at e2
      obtain ⟨h1, h2, h3, h4, h5, h6, h7, h8⟩ := e2
      subst h1 h2 h3 h4 h5 h6 h7 h8
      exact ⟨oc, od, n8, n9, n10, n11, n12, n13, n14, osl, rfl, rfl⟩
    | _ => cases e
/-- a def of no default -/
def fnB0 (K : PySem.W.Frag) (a : Addr) (q : Str) : Bool := match funOf K a with
  | some fd => PySem.W.codeIn K fd.code q && (match fd.defaults with | .none => true | _ => false)
  | none => false
theorem fn_ok0 {K : PySem.W.Frag} {a : Addr} {n q : Str} {ps : Arguments} {b : List Stmt} {sc : Scope} (e : fnV K a = some (n, q, ps, .stmts b, sc, mainGlobals, [], builtinsNs)) (c : fnB0 K a q = true) :
    ∃ oc od kV dc pm an cd ct sl, K.lookup a = some ⟨oc, od, .func (PySem.W.fnOf n q ps b sc .none kV dc pm an cd ct), sl⟩ ∧ PySem.W.codeIn K cd q = true := by
  obtain ⟨oc, od, dV, kV, dc, pm, an, cd, ct, sl, l, f⟩ := fn_look e
  unfold fnB0 at c
  rw [f] at c
  obtain ⟨c1, c2⟩ := He.ba c
  cases dV with
  | none => exact ⟨oc, od, kV, dc, pm, an, cd, ct, sl, l, c1⟩
  | _ => cases c2
/-- a def with one default, None -/
def dTof (K : PySem.W.Frag) (a : Addr) : Addr := match funOf K a with
  | some fd => (match fd.defaults with | .ref T => T | _ => 0)
  | none => 0
def fnB1 (K : PySem.W.Frag) (a : Addr) (q : Str) : Bool := match funOf K a with
  | some fd => PySem.W.codeIn K fd.code q && (match fd.defaults with
    | .ref T => (match K.lookup T with
      | some ⟨_, _, .seq its _, _⟩ => (match its.toList with | [.none] => true | _ => false)
      | _ => false)
    | _ => false)
  | none => false
theorem fn_ok1 {K : PySem.W.Frag} {a : Addr} {n q : Str} {ps : Arguments} {b : List Stmt} {sc : Scope} (e : fnV K a = some (n, q, ps, .stmts b, sc, mainGlobals, [], builtinsNs)) (c : fnB1 K a q = true) :
    ∃ oc od kV dc pm an cd ct sl tc td tn ts, K.lookup a = some ⟨oc, od, .func (PySem.W.fnOf n q ps b sc (.ref (dTof K a)) kV dc pm an cd ct), sl⟩ ∧ PySem.W.codeIn K cd q = true ∧ K.lookup (dTof K a) = some ⟨tc, td, .seq #[Value.none] tn, ts⟩ := by
  obtain ⟨oc, od, dV, kV, dc, pm, an, cd, ct, sl, l, f⟩ := fn_look e
  unfold fnB1 at c
  rw [f] at c
  obtain ⟨c1, c2⟩ := He.ba c
  cases dV with
  | ref T =>
    have eT : dTof K a = T := by unfold dTof; rw [f] <;> rfl
    have c2 : (match K.lookup T with
      | some ⟨_, _, .seq its _, _⟩ => (match its.toList with | [.none] => true | _ => false)
      | _ => false) = true := c2
    rw [eT]
    cases lT : K.lookup T with
    | none => rw [lT] at c2; cases c2
    | some o =>
      obtain ⟨tc, td, dt, ts⟩ := o
      rw [lT] at c2
      cases dt with
      | seq its tn =>
        have c2 : (match its.toList with | [.none] => true | _ => false) = true := c2
        have ei : its = #[Value.none] := by
          obtain ⟨its⟩ := its
          match its, c2 with
          | [.none], _ => rfl
        subst ei
        exact ⟨oc, od, kV, dc, pm, an, cd, ct, sl, tc, td, tn, ts, l, c1, rfl⟩
      | _ => cases c2
  | _ => cases c2
/-- a property's function -/
def pfOf (K : PySem.W.Frag) (p : Addr) : Addr := match PySem.W.recIn K p "property" with
  | some (.ref f :: _) => f
  | _ => 0
def pfB (K : PySem.W.Frag) (p : Addr) : Bool := match PySem.W.recIn K p "property" with
  | some (.ref _ :: _) => true
  | _ => false
theorem pf_ok {K : PySem.W.Frag} {p : Addr} (c : pfB K p = true) : ∃ rs, PySem.W.recIn K p "property" = some (.ref (pfOf K p) :: rs) := by
  unfold pfB at c
  unfold pfOf
  cases e : PySem.W.recIn K p "property" with
  | none => rw [e] at c; cases c
  | some l =>
    rw [e] at c
    match l, c with
    | .ref f :: rs, _ => exact ⟨rs, rfl⟩
/-- constants -/
def ciB (K : PySem.W.Frag) (x : Str) (i : Int) : Bool := match PySem.W.nsIn K mainGlobals x with
  | some (some (.int j _)) => decide (j = i)
  | _ => false
theorem ci_ok {K : PySem.W.Frag} {x : Str} {i : Int} (c : ciB K x i = true) : ∃ t, PySem.W.nsIn K mainGlobals x = some (some (.int i t)) := by
  unfold ciB at c
  cases e : PySem.W.nsIn K mainGlobals x with
  | none => rw [e] at c; cases c
  | some o =>
    rw [e] at c
    match o, c with
    | some (.int j t), c =>
      have c : j = i := of_decide_eq_true c
      subst c
      exact ⟨t, rfl⟩
def csB (K : PySem.W.Frag) (x z : Str) : Bool := match PySem.W.nsIn K mainGlobals x with
  | some (some (.str y _)) => decide (y = z)
  | _ => false
theorem cs_ok {K : PySem.W.Frag} {x z : Str} (c : csB K x z = true) : ∃ t, PySem.W.nsIn K mainGlobals x = some (some (.str z t)) := by
  unfold csB at c
  cases e : PySem.W.nsIn K mainGlobals x with
  | none => rw [e] at c; cases c
  | some o =>
    rw [e] at c
    match o, c with
    | some (.str y t), c =>
      have c : y = z := of_decide_eq_true c
      subst c
      exact ⟨t, rfl⟩
/-! ### the Hook -/
def frM (g : Addr → Option Obj) (n0 n : Nat) : PySem.W.Frag := He.frT g (mainGlobals :: List.range' n0 (n - n0))
def obsM (n0 : Nat) (fn : List FD) (ex : PySem.W.Frag → List Bool) (g : Addr → Option Obj) (n : Nat) : Bool × List He.FnW :=
  ((ex (frM g n0 n)).all id, fn.map fun d => fnV (frM g n0 n) (d.at_ (frM g n0 n)))
structure SaysM (fn : List FD) (ex : PySem.W.Frag → List Bool) (K : PySem.W.Frag) : Prop where
  ex : (ex K).all id = true
  fn : (fn.map fun d => fnV K (d.at_ K)) = fn.map FD.val
def hookM (n0 : Nat) (fn : List FD) (ex : PySem.W.Frag → List Bool) : PySem.W.Hook where
  α := Bool × List He.FnW
  obs := fun s => obsM n0 fn ex s.heap.get? s.heap.objs.size
  val := fun _ => (true, fn.map FD.val)
  says := fun _ h => ∃ K : PySem.W.Frag, K.In h ∧ SaysM fn ex K
  of := fun _ s e => ⟨frM s.heap.get? n0 s.heap.objs.size, He.frT_in, congrArg (fun z : Bool × List He.FnW => z.1) e, congrArg (fun z : Bool × List He.FnW => z.2) e⟩
  keeps := fun _ _ _ ⟨K, hK, c⟩ k => ⟨K, PySem.W.Frag.In.keeps hK k, c⟩
def obM (n0 : Nat) (fn : List FD) (ex : PySem.W.Frag → List Bool) (s : PySem.W.SharedT) : Bool × List He.FnW := obsM n0 fn ex (HandSHeadRun.getT s) s.n
theorem obM_eq {n0 : Nat} {fn : List FD} {ex : PySem.W.Frag → List Bool} (s : PySem.W.SharedT) : obM n0 fn ex s = (hookM n0 fn ex).obs s.abs := by
  have e : HandSHeadRun.getT s = s.abs.heap.get? := funext (HandSHeadRun.getT_eq s)
  have n : s.n = s.abs.heap.objs.size := (PySem.W.absHeap_size s.tree s.n s.life).symm
  show obsM n0 fn ex (HandSHeadRun.getT s) s.n = obsM n0 fn ex s.abs.heap.get? s.abs.heap.objs.size
  rw [e, ← n]
theorem SaysM.b {fn : List FD} {ex : PySem.W.Frag → List Bool} {K : PySem.W.Frag} (c : SaysM fn ex K) (i : Nat) {b : Bool} (h : (ex K)[i]? = some b := by rfl) : b = true := List.all_eq_true.mp c.ex b (List.mem_of_getElem? h)
theorem SaysM.f {fn : List FD} {ex : PySem.W.Frag → List Bool} {K : PySem.W.Frag} (c : SaysM fn ex K) (i : Nat) {d : FD} (h : fn[i]? = some d := by rfl) : fnV K (d.at_ K) = d.val := by
  have e2 : (fn.map fun d => fnV K (d.at_ K))[i]? = (fn.map FD.val)[i]? := by rw [c.fn]
  rw [List.getElem?_map, List.getElem?_map, h] at e2
  exact Option.some.inj e2
def codeOf (K : PySem.W.Frag) (a : Addr) : Addr := match funOf K a with
  | some fd => (match fd.code with | .ref c => c | _ => 0)
  | none => 0
def tbV : Option Value → Option Addr
  | some (.ref P) => some P
  | _ => none
theorem tbV_ok {v : Option Value} {P : Addr} (h : tbV v = some P) : v = some (.ref P) := by
  match v, h with
  | some (.ref Q), h => cases h; rfl
def fieldsOf (K : PySem.W.Frag) (c : Addr) : Option (Array Value) := match K.lookup c with
  | some ⟨_, _, .fields vs, _⟩ => some vs
  | _ => none
theorem fields_ok {K : PySem.W.Frag} {c : Addr} {vs : Array Value} (h : fieldsOf K c = some vs) : ∃ te td tl, K.lookup c = some ⟨te, td, .fields vs, tl⟩ := by
  unfold fieldsOf at h
  cases l : K.lookup c with
  | none => rw [l] at h; cases h
  | some o =>
    obtain ⟨te, td, dt, tl⟩ := o
    rw [l] at h
    cases dt with
    | fields tv =>
      have h : some tv = some vs := h
      cases h
      exact ⟨te, td, tl, rfl⟩
    | _ => cases h
def tbO (K : PySem.W.Frag) (a : Addr) : Option Addr := (fieldsOf K (codeOf K a)).bind fun vs => tbV vs[11]?
def tbOf (K : PySem.W.Frag) (a : Addr) : Addr := (tbO K a).getD 0
def fnBU (K : PySem.W.Frag) (a : Addr) (q : Str) : Bool := match funOf K a with
  | some fd => PySem.W.codeIn K fd.code q && ((match fd.defaults with | .none => true | _ => false) && ((match fd.code with | .ref _ => true | _ => false) && ((tbO K a).isSome && (K.lookup (tbOf K a)).isNone)))
  | none => false
def kitBack (K : PySem.W.Frag) (C : Addr) : Bool := ownTys.all fun t => decide (PySem.W.kitOne K (.ref C) (.type t) = some false)
end DL
set_option Elab.async false
set_option linter.all false
set_option maxRecDepth 100000
set_option maxHeartbeats 4000000
/-! DL129: a module's constant that is a tuple of texts (stands beside DL0 in the assembled text). -/
namespace DL
open PySem PySem.Spec PyProof.Rows L2
def ctOf (K : PySem.W.Frag) (n : Str) : Addr := match PySem.W.nsIn K mainGlobals n with
  | some (some (.ref a)) => a
  | _ => 0
def strsB : List Value → List Str → Bool
  | [], [] => true
  | .str y _ :: r, x :: xs => decide (y = x) && strsB r xs
  | _, _ => false
def ctB (K : PySem.W.Frag) (a : Addr) (xs : List Str) : Bool := match K.lookup a with
  | some ⟨c, _, .seq its _, _⟩ => decide (c = .type "tuple") && (decide (its.size ≤ sizeLine) && strsB its.toList xs)
  | _ => false
def CT (K : PySem.W.Frag) (a : Addr) (xs : List Str) : Prop := ∃ (o : Obj) (its : Array Value) (n : Nat), K.lookup a = some o ∧ o.cls = .type "tuple" ∧ o.data = .seq its n ∧ its.size ≤ sizeLine ∧ Vals (xs.map V.str) its.toList
theorem strs_ok {us : List Value} {xs : List Str} (h : strsB us xs = true) : Vals (xs.map V.str) us := by
  induction us generalizing xs with
  | nil =>
    cases xs with
    | nil => exact .nil
    | cons _ _ => cases h
  | cons u us ih =>
    cases u with
    | str y t =>
      cases xs with
      | nil => cases h
      | cons x xs =>
        have h : (decide (y = x) && strsB us xs) = true := h
        obtain ⟨h1, h2⟩ := He.ba h
        have e := of_decide_eq_true h1
        subst e
        exact .cons ⟨t, rfl⟩ (ih h2)
    | _ => cases h
theorem ct_ok {K : PySem.W.Frag} {a : Addr} {xs : List Str} (h : ctB K a xs = true) : CT K a xs := by
  unfold ctB at h
  cases l : K.lookup a with
  | none => rw [l] at h; cases h
  | some o =>
    obtain ⟨c, od, dt, sl⟩ := o
    rw [l] at h
    cases dt with
    | seq its n =>
      have h : (decide (c = .type "tuple") && (decide (its.size ≤ sizeLine) && strsB its.toList xs)) = true := h
      obtain ⟨h1, h2⟩ := He.ba h
      obtain ⟨h2, h3⟩ := He.ba h2
      exact ⟨_, its, n, l, of_decide_eq_true h1, rfl, of_decide_eq_true h2, strs_ok h3⟩
    | _ => cases h
end DL
set_option Elab.async false
set_option linter.all false
set_option maxRecDepth 100000
set_option maxHeartbeats 4000000
namespace DL.Law
open DL
open PySem PySem.Spec PyProof.Rows L2
abbrev owns : List Str := ["Counted", "Filler", "Lot", "Row", "Store"]
abbrev xnames : List Str := ["InvalidLot", "InvalidOperation", "InvalidPacking", "InvalidStore"]
abbrev xisa (n c : Str) : Bool := decide (n = c)
def top (i : Nat) : Stmt := PySem.Challenge.pw_chainpacks_k30_errors_of_rules.main.body.getD i (.Pass ⟨0, 0, 0, 0⟩)
abbrev s_is_integer : Stmt := top 3
abbrev s_is_size : Stmt := top 5
abbrev s_is_table : Stmt := top 16
abbrev s_Lot_init : Stmt := (inClass (top 21) 0)
abbrev s_is_run_stores : Stmt := top 26
abbrev s_merged : Stmt := top 28
abbrev s_Store_init : Stmt := (inClass (top 31) 0)
abbrev s_law_dice : Stmt := top 68
abbrev s_require_lot : Stmt := top 47
abbrev s_require_store : Stmt := top 48
abbrev s_is_greedy : Stmt := top 60
abbrev s_Store_runs : Stmt := (inClass (top 31) 2)
abbrev s_Filler_init : Stmt := (inClass (top 58) 0)
abbrev s_is_filling : Stmt := top 38
abbrev s_load_in : Stmt := top 39
abbrev s_is_run : Stmt := top 40
abbrev s_joined_runs : Stmt := top 42
abbrev s_rooms_in : Stmt := top 43
abbrev s_sizes_in : Stmt := top 44
abbrev s_Packing_init : Stmt := (inClass (top 46) 1)
abbrev s_Filler_packing : Stmt := (inClass (top 58) 4)
abbrev s_Filler_order : Stmt := (inClass (top 58) 1)
abbrev s_with_more : Stmt := top 45
abbrev s_filled : Stmt := top 57
abbrev s_Filler_put_in : Stmt := (inClass (top 58) 3)
abbrev s_Filler_put : Stmt := (inClass (top 58) 2)
abbrev s_is_row : Stmt := top 61
abbrev s_require_row : Stmt := top 62
abbrev s_pack_row : Stmt := top 65
abbrev s_is_taken : Stmt := top 66
abbrev s_lot_of : Stmt := top 63
abbrev s_Lot_counts : Stmt := (inClass (top 21) 2)
abbrev s_is_rule : Stmt := top 56
abbrev s_pack : Stmt := top 59
abbrev s_law_roll : Stmt := top 69
abbrev s_law_pick : Stmt := top 70
abbrev s_law_word : Stmt := top 71
abbrev s_law_right : Stmt := top 72
abbrev s_law : Stmt := top 73
def fd0 : DL.FD := ⟨fun K => (He.ga K "is_integer"), "is_integer", "is_integer", (defArgs s_is_integer), (defBody s_is_integer), (defScope s_is_integer)⟩
def fd1 : DL.FD := ⟨fun K => (He.ga K "is_size"), "is_size", "is_size", (defArgs s_is_size), (defBody s_is_size), (defScope s_is_size)⟩
def fd2 : DL.FD := ⟨fun K => (He.ga K "is_table"), "is_table", "is_table", (defArgs s_is_table), (defBody s_is_table), (defScope s_is_table)⟩
def fd3 : DL.FD := ⟨fun K => (He.ma K (He.ga K "Lot") "__init__"), "__init__", "Lot.__init__", (defArgs s_Lot_init), (defBody s_Lot_init), (defScope s_Lot_init)⟩
def fd4 : DL.FD := ⟨fun K => (He.ga K "is_run_stores"), "is_run", "is_run", (defArgs s_is_run_stores), (defBody s_is_run_stores), (defScope s_is_run_stores)⟩
def fd5 : DL.FD := ⟨fun K => (He.ga K "merged"), "merged", "merged", (defArgs s_merged), (defBody s_merged), (defScope s_merged)⟩
def fd6 : DL.FD := ⟨fun K => (He.ma K (He.ga K "Store") "__init__"), "__init__", "Store.__init__", (defArgs s_Store_init), (defBody s_Store_init), (defScope s_Store_init)⟩
def fd7 : DL.FD := ⟨fun K => (He.ga K "_law_dice"), "_law_dice", "_law_dice", (defArgs s_law_dice), (defBody s_law_dice), (defScope s_law_dice)⟩
def fd8 : DL.FD := ⟨fun K => (He.ga K "require_lot"), "require_lot", "require_lot", (defArgs s_require_lot), (defBody s_require_lot), (defScope s_require_lot)⟩
def fd9 : DL.FD := ⟨fun K => (He.ga K "require_store"), "require_store", "require_store", (defArgs s_require_store), (defBody s_require_store), (defScope s_require_store)⟩
def fd10 : DL.FD := ⟨fun K => (He.ga K "is_greedy"), "is_greedy", "is_greedy", (defArgs s_is_greedy), (defBody s_is_greedy), (defScope s_is_greedy)⟩
def fd11 : DL.FD := ⟨fun K => (DL.pfOf K (He.ma K (He.ga K "Store") "runs")), "runs", "Store.runs", (defArgs s_Store_runs), (defBody s_Store_runs), (defScope s_Store_runs)⟩
def fd12 : DL.FD := ⟨fun K => (He.ma K (He.ga K "Filler") "__init__"), "__init__", "Filler.__init__", (defArgs s_Filler_init), (defBody s_Filler_init), (defScope s_Filler_init)⟩
def fd13 : DL.FD := ⟨fun K => (He.ga K "is_filling"), "is_filling", "is_filling", (defArgs s_is_filling), (defBody s_is_filling), (defScope s_is_filling)⟩
def fd14 : DL.FD := ⟨fun K => (He.ga K "load_in"), "load_in", "load_in", (defArgs s_load_in), (defBody s_load_in), (defScope s_load_in)⟩
def fd15 : DL.FD := ⟨fun K => (He.ga K "is_run"), "is_run", "is_run", (defArgs s_is_run), (defBody s_is_run), (defScope s_is_run)⟩
def fd16 : DL.FD := ⟨fun K => (He.ga K "joined_runs"), "joined_runs", "joined_runs", (defArgs s_joined_runs), (defBody s_joined_runs), (defScope s_joined_runs)⟩
def fd17 : DL.FD := ⟨fun K => (He.ga K "rooms_in"), "rooms_in", "rooms_in", (defArgs s_rooms_in), (defBody s_rooms_in), (defScope s_rooms_in)⟩
def fd18 : DL.FD := ⟨fun K => (He.ga K "sizes_in"), "sizes_in", "sizes_in", (defArgs s_sizes_in), (defBody s_sizes_in), (defScope s_sizes_in)⟩
def fd19 : DL.FD := ⟨fun K => (He.ma K (He.ga K "Packing") "__init__"), "__init__", "Packing.__init__", (defArgs s_Packing_init), (defBody s_Packing_init), (defScope s_Packing_init)⟩
def fd20 : DL.FD := ⟨fun K => (He.ma K (He.ga K "Filler") "packing"), "packing", "Filler.packing", (defArgs s_Filler_packing), (defBody s_Filler_packing), (defScope s_Filler_packing)⟩
def fd21 : DL.FD := ⟨fun K => (He.ma K (He.ga K "Filler") "order"), "order", "Filler.order", (defArgs s_Filler_order), (defBody s_Filler_order), (defScope s_Filler_order)⟩
def fd22 : DL.FD := ⟨fun K => (He.ga K "with_more"), "with_more", "with_more", (defArgs s_with_more), (defBody s_with_more), (defScope s_with_more)⟩
def fd23 : DL.FD := ⟨fun K => (He.ga K "filled"), "filled", "filled", (defArgs s_filled), (defBody s_filled), (defScope s_filled)⟩
def fd24 : DL.FD := ⟨fun K => (He.ma K (He.ga K "Filler") "put_in"), "put_in", "Filler.put_in", (defArgs s_Filler_put_in), (defBody s_Filler_put_in), (defScope s_Filler_put_in)⟩
def fd25 : DL.FD := ⟨fun K => (He.ma K (He.ga K "Filler") "put"), "put", "Filler.put", (defArgs s_Filler_put), (defBody s_Filler_put), (defScope s_Filler_put)⟩
def fd26 : DL.FD := ⟨fun K => (He.ga K "is_row"), "is_row", "is_row", (defArgs s_is_row), (defBody s_is_row), (defScope s_is_row)⟩
def fd27 : DL.FD := ⟨fun K => (He.ga K "require_row"), "require_row", "require_row", (defArgs s_require_row), (defBody s_require_row), (defScope s_require_row)⟩
def fd28 : DL.FD := ⟨fun K => (He.ga K "pack_row"), "pack_row", "pack_row", (defArgs s_pack_row), (defBody s_pack_row), (defScope s_pack_row)⟩
def fd29 : DL.FD := ⟨fun K => (He.ga K "is_taken"), "is_taken", "is_taken", (defArgs s_is_taken), (defBody s_is_taken), (defScope s_is_taken)⟩
def fd30 : DL.FD := ⟨fun K => (He.ga K "lot_of"), "lot_of", "lot_of", (defArgs s_lot_of), (defBody s_lot_of), (defScope s_lot_of)⟩
def fd31 : DL.FD := ⟨fun K => (DL.pfOf K (He.ma K (He.ga K "Lot") "counts")), "counts", "Lot.counts", (defArgs s_Lot_counts), (defBody s_Lot_counts), (defScope s_Lot_counts)⟩
def fd32 : DL.FD := ⟨fun K => (He.ga K "is_rule"), "is_rule", "is_rule", (defArgs s_is_rule), (defBody s_is_rule), (defScope s_is_rule)⟩
def fd33 : DL.FD := ⟨fun K => (He.ga K "pack"), "pack", "pack", (defArgs s_pack), (defBody s_pack), (defScope s_pack)⟩
def fd34 : DL.FD := ⟨fun K => (He.ga K "_law_roll"), "_law_roll", "_law_roll", (defArgs s_law_roll), (defBody s_law_roll), (defScope s_law_roll)⟩
def fd35 : DL.FD := ⟨fun K => (He.ga K "_law_pick"), "_law_pick", "_law_pick", (defArgs s_law_pick), (defBody s_law_pick), (defScope s_law_pick)⟩
def fd36 : DL.FD := ⟨fun K => (He.ga K "_law_word"), "_law_word", "_law_word", (defArgs s_law_word), (defBody s_law_word), (defScope s_law_word)⟩
def fd37 : DL.FD := ⟨fun K => (He.ga K "_law_right"), "_law_right", "_law_right", (defArgs s_law_right), (defBody s_law_right), (defScope s_law_right)⟩
def fd38 : DL.FD := ⟨fun K => (He.ga K "law"), "law", "law", (defArgs s_law), (defBody s_law), (defScope s_law)⟩
def FNS : List DL.FD := [fd0, fd1, fd2, fd3, fd4, fd5, fd6, fd7, fd8, fd9, fd10, fd11, fd12, fd13, fd14, fd15, fd16, fd17, fd18, fd19, fd20, fd21, fd22, fd23, fd24, fd25, fd26, fd27, fd28, fd29, fd30, fd31, fd32, fd33, fd34, fd35, fd36, fd37, fd38]
def EX0 (K : PySem.W.Frag) : List Bool := [
  decide (PySem.W.nsIn K mainGlobals "Packing" = some (some (.ref (He.ga K "Packing")))),
  PySem.W.plainGet K (He.ga K "Packing") Str.empty,
  PySem.W.isClsIn K (He.ga K "Packing"),
  PySem.W.plainOver K (He.ga K "Packing"),
  decide (PySem.W.findIn K (.ref (He.ga K "Packing")) "__setattr__" = some (some (.builtin "object.__setattr__"))),
  decide (PySem.W.findIn K (.ref (He.ga K "Packing")) "own_runs" = some (some (.ref (He.ma K (He.ga K "Packing") "own_runs")))),
  decide (PySem.W.specialIn K (.ref (He.ma K (He.ga K "Packing") "own_runs")) "__get__" = some (some (.builtin "member_descriptor.__get__"))),
  decide (PySem.W.takesIn K (.ref (He.ma K (He.ga K "Packing") "own_runs")) = some true),
  decide (PySem.W.typeIn K (.ref (He.ma K (He.ga K "Packing") "own_runs")) = some (.type "member_descriptor")),
  decide (PySem.W.slotIn K (He.ma K (He.ga K "Packing") "own_runs") (He.ga K "Packing") = some 0),
  decide (PySem.W.findIn K (.ref (He.ga K "Packing")) "__class__" = some (some (.builtin "object.__class__"))),
  decide (PySem.W.specialIn K (.builtin "object.__class__") "__get__" = some (some (.builtin "getset_descriptor.__get__"))),
  decide (PySem.W.takesIn K (.builtin "object.__class__") = some true),
  decide (PySem.W.mroIn K (He.ga K "Packing") (.type "object") = some true),
  decide (PySem.W.nsIn K mainGlobals "Counted" = some (some (.ref (He.ga K "Counted")))),
  insTyB K (He.ga K "Counted"),
  kitAll K (He.ga K "Counted"),
  decide (PySem.W.nsIn K mainGlobals "Filler" = some (some (.ref (He.ga K "Filler")))),
  insTyB K (He.ga K "Filler"),
  decide (PySem.W.nsIn K mainGlobals "Lot" = some (some (.ref (He.ga K "Lot")))),
  insTyB K (He.ga K "Lot"),
  kitAll K (He.ga K "Lot"),
  decide (PySem.W.nsIn K mainGlobals "Row" = some (some (.ref (He.ga K "Row")))),
  insTyB K (He.ga K "Row"),
  kitAll K (He.ga K "Row"),
  decide (PySem.W.nsIn K mainGlobals "Store" = some (some (.ref (He.ga K "Store")))),
  insTyB K (He.ga K "Store"),
  kitAll K (He.ga K "Store"),
  (([("Counted", (He.ga K "Counted")), ("Filler", (He.ga K "Filler")), ("Lot", (He.ga K "Lot")), ("Row", (He.ga K "Row")), ("Store", (He.ga K "Store"))] : List (Str × Addr)).all fun p => ([("Counted", (He.ga K "Counted")), ("Filler", (He.ga K "Filler")), ("Lot", (He.ga K "Lot")), ("Row", (He.ga K "Row")), ("Store", (He.ga K "Store"))] : List (Str × Addr)).all fun q => decide (PySem.W.kitOne K (.ref p.2) (.ref q.2) = some (decide (p.1 = q.1)))),
  (([("Counted", (He.ga K "Counted")), ("Filler", (He.ga K "Filler")), ("Lot", (He.ga K "Lot")), ("Row", (He.ga K "Row")), ("Store", (He.ga K "Store"))] : List (Str × Addr)).all fun p => insTyB K p.2),
  (([("Counted", (He.ga K "Counted")), ("Filler", (He.ga K "Filler")), ("Lot", (He.ga K "Lot")), ("Row", (He.ga K "Row")), ("Store", (He.ga K "Store"))] : List (Str × Addr)).all fun p => kitBack K p.2),
  (([("Counted", (He.ga K "Counted")), ("Filler", (He.ga K "Filler")), ("Lot", (He.ga K "Lot")), ("Row", (He.ga K "Row")), ("Store", (He.ga K "Store")), ("Packing", (He.ga K "Packing"))] : List (Str × Addr)).all fun p => ([("Counted", (He.ga K "Counted")), ("Filler", (He.ga K "Filler")), ("Lot", (He.ga K "Lot")), ("Row", (He.ga K "Row")), ("Store", (He.ga K "Store")), ("Packing", (He.ga K "Packing"))] : List (Str × Addr)).all fun q => decide (PySem.W.kitOne K (.ref p.2) (.ref q.2) = some (decide (p.1 = q.1)))),
  decide (PySem.W.findIn K (.ref (He.ga K "Counted")) "own_counts" = some none),
  decide (PySem.W.findIn K (.ref (He.ga K "Filler")) "own_runs" = some none),
  decide (PySem.W.findIn K (.ref (He.ga K "Lot")) "own_counts" = some none),
  decide (PySem.W.findIn K (.ref (He.ga K "Row")) "own_runs" = some none),
  decide (PySem.W.findIn K (.ref (He.ga K "Store")) "own_runs" = some none),
  decide (PySem.W.nsIn K mainGlobals "InvalidLot" = some (some (.ref (He.ga K "InvalidLot")))),
  PySem.W.excIn K (He.ga K "InvalidLot") [.type "ValueError", .type "Exception", .type "BaseException", .type "object"] "ValueError.__new__",
  PySem.W.keepIn K (.ref (He.ga K "InvalidLot"))]
def EX1 (K : PySem.W.Frag) : List Bool := [
  decide (PySem.W.subIn K (.ref (He.ga K "InvalidLot")) (.type "BaseException") = some true),
  decide (PySem.W.typeIn K (.ref (He.ga K "InvalidLot")) = some (.type "type")),
  decide (PySem.W.nsIn K mainGlobals "InvalidOperation" = some (some (.ref (He.ga K "InvalidOperation")))),
  PySem.W.excIn K (He.ga K "InvalidOperation") [.type "ValueError", .type "Exception", .type "BaseException", .type "object"] "ValueError.__new__",
  PySem.W.keepIn K (.ref (He.ga K "InvalidOperation")),
  decide (PySem.W.subIn K (.ref (He.ga K "InvalidOperation")) (.type "BaseException") = some true),
  decide (PySem.W.typeIn K (.ref (He.ga K "InvalidOperation")) = some (.type "type")),
  decide (PySem.W.nsIn K mainGlobals "InvalidPacking" = some (some (.ref (He.ga K "InvalidPacking")))),
  PySem.W.excIn K (He.ga K "InvalidPacking") [.type "ValueError", .type "Exception", .type "BaseException", .type "object"] "ValueError.__new__",
  PySem.W.keepIn K (.ref (He.ga K "InvalidPacking")),
  decide (PySem.W.subIn K (.ref (He.ga K "InvalidPacking")) (.type "BaseException") = some true),
  decide (PySem.W.typeIn K (.ref (He.ga K "InvalidPacking")) = some (.type "type")),
  decide (PySem.W.nsIn K mainGlobals "InvalidStore" = some (some (.ref (He.ga K "InvalidStore")))),
  PySem.W.excIn K (He.ga K "InvalidStore") [.type "ValueError", .type "Exception", .type "BaseException", .type "object"] "ValueError.__new__",
  PySem.W.keepIn K (.ref (He.ga K "InvalidStore")),
  decide (PySem.W.subIn K (.ref (He.ga K "InvalidStore")) (.type "BaseException") = some true),
  decide (PySem.W.typeIn K (.ref (He.ga K "InvalidStore")) = some (.type "type")),
  (([("InvalidLot", (He.ga K "InvalidLot")), ("InvalidOperation", (He.ga K "InvalidOperation")), ("InvalidPacking", (He.ga K "InvalidPacking")), ("InvalidStore", (He.ga K "InvalidStore"))] : List (Str × Addr)).all fun p => ([("InvalidLot", (He.ga K "InvalidLot")), ("InvalidOperation", (He.ga K "InvalidOperation")), ("InvalidPacking", (He.ga K "InvalidPacking")), ("InvalidStore", (He.ga K "InvalidStore"))] : List (Str × Addr)).all fun q => decide (PySem.W.exmOne K (.ref p.2) (.ref q.2) = some (xisa p.1 q.1))),
  decide (PySem.W.nsIn K mainGlobals "is_integer" = some (some (.ref (He.ga K "is_integer")))),
  DL.fnB0 K (He.ga K "is_integer") "is_integer",
  PySem.W.keepIn K (.ref (He.ga K "is_integer")),
  decide (PySem.W.nsIn K mainGlobals "is_size" = some (some (.ref (He.ga K "is_size")))),
  DL.fnB0 K (He.ga K "is_size") "is_size",
  PySem.W.keepIn K (.ref (He.ga K "is_size")),
  decide (PySem.W.nsIn K mainGlobals "is_table" = some (some (.ref (He.ga K "is_table")))),
  DL.fnB0 K (He.ga K "is_table") "is_table",
  PySem.W.keepIn K (.ref (He.ga K "is_table")),
  decide (PySem.W.findIn K (.ref (He.ga K "Lot")) "__init__" = some (some (.ref (He.ma K (He.ga K "Lot") "__init__")))),
  PySem.W.isFn K (.ref (He.ma K (He.ga K "Lot") "__init__")),
  PySem.W.makesIn K (He.ga K "Lot"),
  PySem.W.keepIn K (.ref (He.ga K "Lot")),
  DL.fnB1 K (He.ma K (He.ga K "Lot") "__init__") "Lot.__init__",
  PySem.W.keepIn K (.ref (He.ma K (He.ga K "Lot") "__init__")),
  decide (PySem.W.nsIn K mainGlobals "is_run_stores" = some (some (.ref (He.ga K "is_run_stores")))),
  DL.fnB0 K (He.ga K "is_run_stores") "is_run",
  PySem.W.keepIn K (.ref (He.ga K "is_run_stores")),
  decide (PySem.W.nsIn K mainGlobals "merged" = some (some (.ref (He.ga K "merged")))),
  DL.fnB0 K (He.ga K "merged") "merged",
  PySem.W.keepIn K (.ref (He.ga K "merged")),
  decide (PySem.W.findIn K (.ref (He.ga K "Store")) "__init__" = some (some (.ref (He.ma K (He.ga K "Store") "__init__"))))]
def EX2 (K : PySem.W.Frag) : List Bool := [
  PySem.W.isFn K (.ref (He.ma K (He.ga K "Store") "__init__")),
  PySem.W.makesIn K (He.ga K "Store"),
  PySem.W.keepIn K (.ref (He.ga K "Store")),
  DL.fnB0 K (He.ma K (He.ga K "Store") "__init__") "Store.__init__",
  PySem.W.keepIn K (.ref (He.ma K (He.ga K "Store") "__init__")),
  decide (PySem.W.nsIn K mainGlobals "_law_dice" = some (some (.ref (He.ga K "_law_dice")))),
  DL.fnB0 K (He.ga K "_law_dice") "_law_dice",
  PySem.W.keepIn K (.ref (He.ga K "_law_dice")),
  decide (PySem.W.nsIn K mainGlobals "require_lot" = some (some (.ref (He.ga K "require_lot")))),
  DL.fnB0 K (He.ga K "require_lot") "require_lot",
  PySem.W.keepIn K (.ref (He.ga K "require_lot")),
  decide (PySem.W.nsIn K mainGlobals "require_store" = some (some (.ref (He.ga K "require_store")))),
  DL.fnB0 K (He.ga K "require_store") "require_store",
  PySem.W.keepIn K (.ref (He.ga K "require_store")),
  decide (PySem.W.nsIn K mainGlobals "is_greedy" = some (some (.ref (He.ga K "is_greedy")))),
  DL.fnB0 K (He.ga K "is_greedy") "is_greedy",
  PySem.W.keepIn K (.ref (He.ga K "is_greedy")),
  decide (PySem.W.findIn K (.ref (He.ga K "Store")) "runs" = some (some (.ref (He.ma K (He.ga K "Store") "runs")))),
  decide (PySem.W.specialIn K (.ref (He.ma K (He.ga K "Store") "runs")) "__get__" = some (some (.builtin "property.__get__"))),
  decide (PySem.W.takesIn K (.ref (He.ma K (He.ga K "Store") "runs")) = some true),
  DL.pfB K (He.ma K (He.ga K "Store") "runs"),
  DL.fnB0 K (DL.pfOf K (He.ma K (He.ga K "Store") "runs")) "Store.runs",
  PySem.W.keepIn K (.ref (DL.pfOf K (He.ma K (He.ga K "Store") "runs"))),
  decide (PySem.W.findIn K (.ref (He.ga K "Filler")) "__init__" = some (some (.ref (He.ma K (He.ga K "Filler") "__init__")))),
  PySem.W.isFn K (.ref (He.ma K (He.ga K "Filler") "__init__")),
  PySem.W.makesIn K (He.ga K "Filler"),
  PySem.W.keepIn K (.ref (He.ga K "Filler")),
  DL.fnB0 K (He.ma K (He.ga K "Filler") "__init__") "Filler.__init__",
  PySem.W.keepIn K (.ref (He.ma K (He.ga K "Filler") "__init__")),
  decide (PySem.W.nsIn K mainGlobals "is_filling" = some (some (.ref (He.ga K "is_filling")))),
  DL.fnB0 K (He.ga K "is_filling") "is_filling",
  PySem.W.keepIn K (.ref (He.ga K "is_filling")),
  decide (PySem.W.nsIn K mainGlobals "load_in" = some (some (.ref (He.ga K "load_in")))),
  DL.fnB0 K (He.ga K "load_in") "load_in",
  PySem.W.keepIn K (.ref (He.ga K "load_in")),
  decide (PySem.W.nsIn K mainGlobals "is_run" = some (some (.ref (He.ga K "is_run")))),
  DL.fnB0 K (He.ga K "is_run") "is_run",
  PySem.W.keepIn K (.ref (He.ga K "is_run")),
  decide (PySem.W.nsIn K mainGlobals "joined_runs" = some (some (.ref (He.ga K "joined_runs")))),
  DL.fnB0 K (He.ga K "joined_runs") "joined_runs"]
def EX3 (K : PySem.W.Frag) : List Bool := [
  PySem.W.keepIn K (.ref (He.ga K "joined_runs")),
  decide (PySem.W.nsIn K mainGlobals "rooms_in" = some (some (.ref (He.ga K "rooms_in")))),
  DL.fnB0 K (He.ga K "rooms_in") "rooms_in",
  PySem.W.keepIn K (.ref (He.ga K "rooms_in")),
  decide (PySem.W.nsIn K mainGlobals "sizes_in" = some (some (.ref (He.ga K "sizes_in")))),
  DL.fnB0 K (He.ga K "sizes_in") "sizes_in",
  PySem.W.keepIn K (.ref (He.ga K "sizes_in")),
  decide (PySem.W.findIn K (.ref (He.ga K "Packing")) "__init__" = some (some (.ref (He.ma K (He.ga K "Packing") "__init__")))),
  PySem.W.isFn K (.ref (He.ma K (He.ga K "Packing") "__init__")),
  PySem.W.makesIn K (He.ga K "Packing"),
  PySem.W.keepIn K (.ref (He.ga K "Packing")),
  DL.fnB0 K (He.ma K (He.ga K "Packing") "__init__") "Packing.__init__",
  PySem.W.keepIn K (.ref (He.ma K (He.ga K "Packing") "__init__")),
  decide (PySem.W.findIn K (.ref (He.ga K "Filler")) "packing" = some (some (.ref (He.ma K (He.ga K "Filler") "packing")))),
  PySem.W.isFn K (.ref (He.ma K (He.ga K "Filler") "packing")),
  DL.fnB0 K (He.ma K (He.ga K "Filler") "packing") "Filler.packing",
  PySem.W.keepIn K (.ref (He.ma K (He.ga K "Filler") "packing")),
  decide (PySem.W.findIn K (.ref (He.ga K "Filler")) "order" = some (some (.ref (He.ma K (He.ga K "Filler") "order")))),
  PySem.W.isFn K (.ref (He.ma K (He.ga K "Filler") "order")),
  DL.fnB0 K (He.ma K (He.ga K "Filler") "order") "Filler.order",
  PySem.W.keepIn K (.ref (He.ma K (He.ga K "Filler") "order")),
  decide (PySem.W.nsIn K mainGlobals "with_more" = some (some (.ref (He.ga K "with_more")))),
  DL.fnB0 K (He.ga K "with_more") "with_more",
  PySem.W.keepIn K (.ref (He.ga K "with_more")),
  decide (PySem.W.nsIn K mainGlobals "filled" = some (some (.ref (He.ga K "filled")))),
  DL.fnB0 K (He.ga K "filled") "filled",
  PySem.W.keepIn K (.ref (He.ga K "filled")),
  decide (PySem.W.findIn K (.ref (He.ga K "Filler")) "put_in" = some (some (.ref (He.ma K (He.ga K "Filler") "put_in")))),
  PySem.W.isFn K (.ref (He.ma K (He.ga K "Filler") "put_in")),
  DL.fnB0 K (He.ma K (He.ga K "Filler") "put_in") "Filler.put_in",
  PySem.W.keepIn K (.ref (He.ma K (He.ga K "Filler") "put_in")),
  decide (PySem.W.findIn K (.ref (He.ga K "Filler")) "put" = some (some (.ref (He.ma K (He.ga K "Filler") "put")))),
  PySem.W.isFn K (.ref (He.ma K (He.ga K "Filler") "put")),
  DL.fnB0 K (He.ma K (He.ga K "Filler") "put") "Filler.put",
  PySem.W.keepIn K (.ref (He.ma K (He.ga K "Filler") "put")),
  decide (PySem.W.nsIn K mainGlobals "is_row" = some (some (.ref (He.ga K "is_row")))),
  DL.fnB0 K (He.ga K "is_row") "is_row",
  PySem.W.keepIn K (.ref (He.ga K "is_row")),
  decide (PySem.W.nsIn K mainGlobals "require_row" = some (some (.ref (He.ga K "require_row")))),
  DL.fnB0 K (He.ga K "require_row") "require_row"]
def EX4 (K : PySem.W.Frag) : List Bool := [
  PySem.W.keepIn K (.ref (He.ga K "require_row")),
  decide (PySem.W.nsIn K mainGlobals "pack_row" = some (some (.ref (He.ga K "pack_row")))),
  DL.fnB0 K (He.ga K "pack_row") "pack_row",
  PySem.W.keepIn K (.ref (He.ga K "pack_row")),
  decide (PySem.W.nsIn K mainGlobals "is_taken" = some (some (.ref (He.ga K "is_taken")))),
  DL.fnB0 K (He.ga K "is_taken") "is_taken",
  PySem.W.keepIn K (.ref (He.ga K "is_taken")),
  decide (PySem.W.nsIn K mainGlobals "lot_of" = some (some (.ref (He.ga K "lot_of")))),
  DL.fnB0 K (He.ga K "lot_of") "lot_of",
  PySem.W.keepIn K (.ref (He.ga K "lot_of")),
  decide (PySem.W.findIn K (.ref (He.ga K "Lot")) "counts" = some (some (.ref (He.ma K (He.ga K "Lot") "counts")))),
  decide (PySem.W.specialIn K (.ref (He.ma K (He.ga K "Lot") "counts")) "__get__" = some (some (.builtin "property.__get__"))),
  decide (PySem.W.takesIn K (.ref (He.ma K (He.ga K "Lot") "counts")) = some true),
  DL.pfB K (He.ma K (He.ga K "Lot") "counts"),
  DL.fnB0 K (DL.pfOf K (He.ma K (He.ga K "Lot") "counts")) "Lot.counts",
  PySem.W.keepIn K (.ref (DL.pfOf K (He.ma K (He.ga K "Lot") "counts"))),
  decide (PySem.W.nsIn K mainGlobals "is_rule" = some (some (.ref (He.ga K "is_rule")))),
  DL.fnB0 K (He.ga K "is_rule") "is_rule",
  PySem.W.keepIn K (.ref (He.ga K "is_rule")),
  decide (PySem.W.nsIn K mainGlobals "pack" = some (some (.ref (He.ga K "pack")))),
  DL.fnB0 K (He.ga K "pack") "pack",
  PySem.W.keepIn K (.ref (He.ga K "pack")),
  decide (PySem.W.nsIn K mainGlobals "_law_roll" = some (some (.ref (He.ga K "_law_roll")))),
  DL.fnB0 K (He.ga K "_law_roll") "_law_roll",
  PySem.W.keepIn K (.ref (He.ga K "_law_roll")),
  decide (PySem.W.nsIn K mainGlobals "_law_pick" = some (some (.ref (He.ga K "_law_pick")))),
  DL.fnB0 K (He.ga K "_law_pick") "_law_pick",
  PySem.W.keepIn K (.ref (He.ga K "_law_pick")),
  decide (PySem.W.nsIn K mainGlobals "_law_word" = some (some (.ref (He.ga K "_law_word")))),
  DL.fnB0 K (He.ga K "_law_word") "_law_word",
  PySem.W.keepIn K (.ref (He.ga K "_law_word")),
  decide (PySem.W.nsIn K mainGlobals "_law_right" = some (some (.ref (He.ga K "_law_right")))),
  DL.fnBU K (He.ga K "_law_right") "_law_right",
  PySem.W.keepIn K (.ref (He.ga K "_law_right")),
  decide (PySem.W.nsIn K mainGlobals "law" = some (some (.ref (He.ga K "law")))),
  DL.fnB0 K (He.ga K "law") "law",
  PySem.W.keepIn K (.ref (He.ga K "law")),
  decide (PySem.W.nsIn K mainGlobals "is_run_packings" = some (some (.ref (He.ga K "is_run")))),
  decide (PySem.W.nsIn K mainGlobals "lot_of_rules" = some (some (.ref (He.ga K "lot_of")))),
  decide (PySem.W.nsIn K mainGlobals "abs" = some none)]
def EX5 (K : PySem.W.Frag) : List Bool := [
  decide (PySem.W.nsIn K mainGlobals "all" = some none),
  decide (PySem.W.nsIn K mainGlobals "bool" = some none),
  decide (PySem.W.nsIn K mainGlobals "dict" = some none),
  decide (PySem.W.nsIn K mainGlobals "enumerate" = some none),
  decide (PySem.W.nsIn K mainGlobals "int" = some none),
  decide (PySem.W.nsIn K mainGlobals "isinstance" = some none),
  decide (PySem.W.nsIn K mainGlobals "len" = some none),
  decide (PySem.W.nsIn K mainGlobals "list" = some none),
  decide (PySem.W.nsIn K mainGlobals "max" = some none),
  decide (PySem.W.nsIn K mainGlobals "min" = some none),
  decide (PySem.W.nsIn K mainGlobals "range" = some none),
  decide (PySem.W.nsIn K mainGlobals "sorted" = some none),
  decide (PySem.W.nsIn K mainGlobals "str" = some none),
  decide (PySem.W.nsIn K mainGlobals "sum" = some none),
  decide (PySem.W.nsIn K mainGlobals "tuple" = some none),
  decide (PySem.W.nsIn K mainGlobals "zip" = some none),
  DL.csB K "FIRST" "first",
  DL.csB K "LAST" "last",
  DL.ciB K "LIMIT" 100000000000000000000000000000000000000000000000000000000000000000000000000000000000000000000000000000000000000000000000000000000000000000000000000000000000000000000000000000000000000000000000000000000,
  DL.ciB K "MAX_ROW" 200,
  DL.ciB K "MAX_RUNS_packings" 2000,
  DL.ciB K "MAX_RUNS_stores" 40,
  DL.ciB K "MAX_SIZES_lots" 12,
  DL.ciB K "MAX_SIZES_packings" 12,
  DL.ciB K "MAX_SIZES_rules" 12,
  DL.ciB K "MAX_STORE" 40,
  decide (PySem.W.nsIn K mainGlobals "RULES" = some (some (.ref (DL.ctOf K "RULES")))),
  DL.ctB K (DL.ctOf K "RULES") ["first", "last", "tightest"],
  DL.csB K "TIGHTEST" "tightest",
  decide (([(DL.tbOf K (He.ga K "_law_right"))] : List Addr).Nodup)]
def EX (K : PySem.W.Frag) : List Bool := (EX0 K ++ (EX1 K ++ (EX2 K ++ (EX3 K ++ (EX4 K ++ (EX5 K
 ++ []))))))
def loose0 : List Str := ["_wall", "LIMIT", "is_integer", "is_count", "is_size", "PackError", "InvalidLot", "InvalidStore", "InvalidPacking", "InvalidOperation", "InvalidNumber", "TooMany", "MAX_SIZES_lots", "is_table", "require_size", "lot_of", "lot_of_lots", "Counted", "Lot", "is_part", "few_of", "MAX_RUNS_stores", "is_run", "is_run_stores", "merged", "store_of", "Row", "Store", "runs_between", "few_runs"]
def loose1 : List Str := ["MAX_RUNS_packings", "MAX_STORE", "MAX_SIZES_packings", "is_filling", "load_in", "is_run_packings", "joined_runs", "rooms_in", "sizes_in", "with_more", "Packing", "require_lot", "require_store", "FIRST", "LAST", "TIGHTEST", "RULES", "MAX_ROW", "MAX_SIZES_rules", "is_rule", "filled", "Filler", "pack", "is_greedy", "is_row", "require_row", "lot_of_rules", "pack_row", "is_taken", "_law_dice"]
def loose2 : List Str := ["_law_roll", "_law_pick", "_law_word"]
def loose : List Str := loose0 ++ loose1 ++ loose2
abbrev RR : PySem.W.OpenRow := PySem.W.OpenLaw.row PySem.Challenge.rw_chainpacks_k30_errors_of_rules
abbrev hk : PySem.W.Hook := DL.hookM 0 FNS EX
theorem run (w : World) : HandSHeadRun.RunEq RR (PySem.W.view RR.prog [72, 73]) hk (DL.obM 0 FNS EX) 40000 loose w := by
  intro os
  kernel_rfl
end DL.Law
set_option Elab.async false
set_option linter.all false
set_option maxRecDepth 100000
set_option maxHeartbeats 4000000
/-! DL1: the data layer. Values as trees (D), what stands for them in the heap (Rep), a frame's names as data (EnvD), the judgements DE, DT, DS. -/
namespace DL
open PySem PySem.Spec PyProof.Rows L2
def isTbl : HO → Bool
  | .tbl _ => true
  | _ => false
/-- what is tracked stays, tables of code objects apart -/
structure Grow (H H' : Hp) : Prop where
  get : ∀ b o, H b = some o → isTbl o = false → H' b = some o
/-- what is neither a table nor a code object -/
def isTup : HO → Bool
  | .tup _ => true
  | _ => false
def Plain (o : HO) : Prop := isTbl o = false ∧ (∀ c q, o ≠ LamX.CodeO c q) ∧ isTup o = false
def isExt : HO → Bool
  | .ext _ => true
  | _ => false
theorem plain_of {o : HO} (h : isTbl o = false := by rfl) (n : isExt o = false := by rfl) (t : isTup o = false := by rfl) : Plain o := ⟨h, fun c q z => (by rw [z] at n; cases n), t⟩
inductive D where
  | none | bool (b : Bool) | int (i : Int) | str (s : Str) | list (xs : List D) | tup (xs : List D)
  | dict (kvs : List (Key × D)) | tdict (kvs : List (List Key × D)) | dice | script (ns : List Int) | opq (a : Addr) (Hc : Hp) | ty (n : String)
  | fn (n : Str)
  | obj (n : Str) (fs : List (Str × D))
  | exc (a dd : Addr) (n f : Str) (d : D)
  | sob (n : Str) (d : D)
structure Er where
  cls : Str
  arg : Option (Str × D)
/-- the dice: a list of three ints, whatever they are -/
def DiceH (a : Addr) (h : Heap) : Prop := ∃ (i j k : Int) (t u w : Tok) (n : Nat), h.get? a = some { cls := .type "list", data := .seq #[.int i t, .int j u, .int k w] n }
def diceO (a : Addr) : HO := .ext (DiceH a)
mutual
inductive Rep (K : PySem.W.Frag) (H : Hp) : V → D → Prop
  | non : Rep K H .non .none
  | bool (b : Bool) : Rep K H (.bl b) (.bool b)
  | int (i : Int) : Rep K H (.int i) (.int i)
  | str (x : Str) : Rep K H (.str x) (.str x)
  | list {a : Addr} {xs : List V} {ds : List D} : H a = some (.lst xs) → xs.length ≤ sizeLine → Reps K H xs ds → Rep K H (.ref a) (.list ds)
  | tup {a : Addr} {xs : List V} {ds : List D} : SqT K H a xs → xs.length ≤ sizeLine → Reps K H xs ds → Rep K H (.ref a) (.tup ds)
  | dict {a : Addr} {od : Obj} {kvs : List (Key × V)} {ds : List (Key × D)} : H a = some (.frz od (.dK kvs)) → kvs.length ≤ sizeLine → RepKs K H kvs ds → Rep K H (.ref a) (.dict ds)
  | tdict {a : Addr} {od : Obj} {kvs : List (List Key × V)} {ds : List (List Key × D)} : H a = some (.frz od (.dT kvs)) → kvs.length ≤ sizeLine → kvs.map (·.1) = ds.map (·.1) → Reps K H (kvs.map (·.2)) (ds.map (·.2)) → Rep K H (.ref a) (.tdict ds)
  | obj {n : Str} {a C dx : Addr} {fs : List (Str × V)} {ds : List (Str × D)} : PySem.W.nsIn K mainGlobals n = some (some (.ref C)) → H a = some (.ins C dx fs) → RepFs K H fs ds → Rep K H (.ref a) (.obj n ds)
  | dice {a : Addr} : H a = some (diceO a) → Rep K H (.ref a) .dice
  | script {a : Addr} {ns : List Int} : SqL K H a (ns.map V.int) → ns.length ≤ sizeLine → Rep K H (.ref a) (.script ns)
  | opq {a : Addr} {Hc : Hp} : Grow Hc H → Rep K H (.ref a) (.opq a Hc)
  | ty (n : String) : Rep K H (.ty n) (.ty n)
  | fn {n : Str} {a : Addr} : PySem.W.nsIn K mainGlobals n = some (some (.ref a)) → Rep K H (.ref a) (.fn n)
  | exc {a dd C : Addr} {n f : Str} {v : V} {d : D} : PySem.W.nsIn K mainGlobals n = some (some (.ref C)) → H dd = some (.xd [(f, v)]) → Rep K H v d → Rep K H (.ref a) (.exc a dd n f d)
  | sob {n : Str} {a C dx : Addr} {v : V} {d : D} : PySem.W.nsIn K mainGlobals n = some (some (.ref C)) → H a = some (SlX.SlO a C dx [some v]) → H dx = some (.xd []) → Rep K H v d → Rep K H (.ref a) (.sob n d)
inductive Reps (K : PySem.W.Frag) (H : Hp) : List V → List D → Prop
  | nil : Reps K H [] []
  | cons {v : V} {vs : List V} {d : D} {ds : List D} : Rep K H v d → Reps K H vs ds → Reps K H (v :: vs) (d :: ds)
inductive RepKs (K : PySem.W.Frag) (H : Hp) : List (Key × V) → List (Key × D) → Prop
  | nil : RepKs K H [] []
  | cons {k : Key} {v : V} {vs : List (Key × V)} {d : D} {ds : List (Key × D)} : Rep K H v d → RepKs K H vs ds → RepKs K H ((k, v) :: vs) ((k, d) :: ds)
inductive RepFs (K : PySem.W.Frag) (H : Hp) : List (Str × V) → List (Str × D) → Prop
  | nil : RepFs K H [] []
  | cons {f : Str} {v : V} {vs : List (Str × V)} {d : D} {ds : List (Str × D)} : Rep K H v d → RepFs K H vs ds → RepFs K H ((f, v) :: vs) ((f, d) :: ds)
end
theorem Grow.at {H H' : Hp} (e : Grow H H') (b : Addr) (o : HO) (h : H b = some o) (n : isTbl o = false := by rfl) : H' b = some o := e.get b o h n
instance {H H' : Hp} : CoeFun (Grow H H') (fun _ => ∀ b o, H b = some o → (n : isTbl o = false := by rfl) → H' b = some o) := ⟨@Grow.at H H'⟩
theorem Grow.refl (H : Hp) : Grow H H := ⟨fun _ _ h _ => h⟩
theorem Grow.trans {H H1 H2 : Hp} (a : Grow H H1) (b : Grow H1 H2) : Grow H H2 := ⟨fun c o h n => b.get c o (a.get c o h n) n⟩
theorem Grow.seq {K : PySem.W.Frag} {H H' : Hp} {a : Addr} {xs : List V} (e : Grow H H') (h : SqL K H a xs) : SqL K H' a xs := by
  rcases h with (h | ⟨o, h⟩) | h
  · exact .inl (.inl (e _ _ h))
  · exact .inl (.inr ⟨o, e _ _ h⟩)
  · exact .inr h
class TabsC where
  T : List (Addr × Str)
variable [TabsC]
/-- the same, and tables keep what they tell -/
structure Same (H H' : Hp) : Prop where
  ob : Grow H H'
  tb : LamX.Tabs TabsC.T H → LamX.Tabs TabsC.T H'
  ne : ∀ b, H' b = none → H b = none
theorem Same.at {H H' : Hp} (e : Same H H') (b : Addr) (o : HO) (h : H b = some o) (n : isTbl o = false := by rfl) : H' b = some o := e.ob.get b o h n
instance {H H' : Hp} : CoeFun (Same H H') (fun _ => ∀ b o, H b = some o → (n : isTbl o = false := by rfl) → H' b = some o) := ⟨@Same.at _ H H'⟩
instance {H H' : Hp} : Coe (Same H H') (Grow H H') := ⟨Same.ob⟩
theorem Same.refl (H : Hp) : Same H H := ⟨Grow.refl H, fun h => h, fun _ h => h⟩
theorem Same.trans {H H1 H2 : Hp} (a : Same H H1) (b : Same H1 H2) : Same H H2 := ⟨a.ob.trans b.ob, fun h => b.tb (a.tb h), fun c h => a.ne c (b.ne c h)⟩
theorem Same.free {H H' : Hp} (e : Same H H') {l : Addr} (h : H' l = Option.none) : H l = Option.none := e.ne l h
theorem Same.seq {K : PySem.W.Frag} {H H' : Hp} {a : Addr} {xs : List V} (e : Same H H') (h : SqL K H a xs) : SqL K H' a xs := e.ob.seq h
theorem Same.of {H H' : Hp} (e : ∀ b o, H b = some o → H' b = some o) : Same H H' := ⟨⟨fun b o h _ => e b o h⟩, fun h p hp => (h p hp).ext e, fun b h => by
  cases q : H b with
  | none => rfl
  | some o => rw [e b o q] at h; cases h⟩
theorem TabS.put {H : Hp} {a P : Addr} {q : Str} {o o' : HO} (h : H a = some o) (n : isTbl o = false) (m : ∀ c q, o ≠ LamX.CodeO c q) (t : LamX.TabS H P q) : LamX.TabS (upd H a o') P q := by
  obtain ⟨ps, h1, h2, h3⟩ := t
  have nP : P ≠ a := fun z => by
    rw [z, h] at h1
    cases h1
    cases n
  refine ⟨ps, by rw [upd_ne nP]; exact h1, h2, fun pos cv hc => ?_⟩
  obtain ⟨c, e1, e2⟩ := h3 pos cv hc
  refine ⟨c, e1, ?_⟩
  rw [upd_ne fun z => ?_]
  · exact e2
  · rw [z, h] at e2
    exact m _ _ (Option.some.inj e2)
theorem Same.put {H : Hp} {a : Addr} {o o' : HO} {H0 : Hp} (e : Same H0 H) (h0 : H0 a = none) (h : H a = some o) (n : isTbl o = false := by rfl) (m : ∀ c q, o ≠ LamX.CodeO c q := by intro c q z; unfold LamX.CodeO at z; cases z) : Same H0 (upd H a o') :=
  ⟨⟨fun b u q hb => by rw [upd_ne (ne_of_none q h0)]; exact e.ob.get b u q hb⟩, fun t p hp => TabS.put h n m (e.tb t p hp), fun b z => by
    by_cases hb : b = a
    · rw [hb]; exact h0
    · rw [upd_ne hb] at z; exact e.ne b z⟩
theorem sameT {K : PySem.W.Frag} {H H' : Hp} {a : Addr} {xs : List V} (e : Grow H H') (h : SqT K H a xs) : SqT K H' a xs := by
  rcases h with (h | ⟨o, h⟩) | h
  · exact .inl (.inl (e _ _ h))
  · exact .inl (.inr ⟨o, e _ _ h⟩)
  · exact .inr h
section
variable {K : PySem.W.Frag} {H H' : Hp}
theorem rdMono {H H' : Hp} {a : Addr} {u : HO} (e : Grow H H') (h : Rd H a u) (n : isTbl u = false := by rfl) : Rd H' a u := by
  rcases h with h | ⟨o, h⟩
  · exact .inl (e _ _ h n)
  · exact .inr ⟨o, e _ _ h⟩
mutual
theorem Rep.mono (e : Grow H H') : ∀ {v : V} {d : D}, Rep K H v d → Rep K H' v d
  | _, _, .non => .non
  | _, _, .bool b => .bool b
  | _, _, .int i => .int i
  | _, _, .str x => .str x
  | _, _, .list h l r => .list (e _ _ h) l (Reps.mono e r)
  | _, _, .tup h l r => .tup (sameT e h) l (Reps.mono e r)
  | _, _, .dict h l r => .dict (e _ _ h) l (RepKs.mono e r)
  | _, _, .tdict h l k r => .tdict (e _ _ h) l k (Reps.mono e r)
  | _, _, .obj c h r => .obj c (e _ _ h) (RepFs.mono e r)
  | _, _, .dice h => .dice (e _ _ h)
  | _, _, .script h l => .script (e.seq h) l
  | _, _, .opq h => .opq (h.trans e)
  | _, _, .ty n => .ty n
  | _, _, .fn h => .fn h
  | _, _, .exc c h r => .exc c (e _ _ h) (Rep.mono e r)
  | _, _, .sob c h k r => .sob c (e _ _ h) (e _ _ k) (Rep.mono e r)
theorem Reps.mono (e : Grow H H') : ∀ {vs : List V} {ds : List D}, Reps K H vs ds → Reps K H' vs ds
  | _, _, .nil => .nil
  | _, _, .cons h r => .cons (Rep.mono e h) (Reps.mono e r)
theorem RepKs.mono (e : Grow H H') : ∀ {vs : List (Key × V)} {ds : List (Key × D)}, RepKs K H vs ds → RepKs K H' vs ds
  | _, _, .nil => .nil
  | _, _, .cons h r => .cons (Rep.mono e h) (RepKs.mono e r)
theorem RepFs.mono (e : Grow H H') : ∀ {vs : List (Str × V)} {ds : List (Str × D)}, RepFs K H vs ds → RepFs K H' vs ds
  | _, _, .nil => .nil
  | _, _, .cons h r => .cons (Rep.mono e h) (RepFs.mono e r)
end
theorem Reps.length : ∀ {vs : List V} {ds : List D}, Reps K H vs ds → vs.length = ds.length
  | _, _, .nil => rfl
  | _, _, .cons _ r => by rw [List.length_cons, List.length_cons, Reps.length r]
theorem RepKs.length : ∀ {vs : List (Key × V)} {ds : List (Key × D)}, RepKs K H vs ds → vs.length = ds.length
  | _, _, .nil => rfl
  | _, _, .cons _ r => by rw [List.length_cons, List.length_cons, RepKs.length r]
theorem Reps.get : ∀ {vs : List V} {ds : List D} {i : Nat} {v : V}, Reps K H vs ds → vs[i]? = some v → ∃ d, ds[i]? = some d ∧ Rep K H v d
  | _, _, _, _, .nil, e => by simp at e
  | _, _, 0, _, .cons r _, e => by simp at e; subst e; exact ⟨_, rfl, r⟩
  | _, _, i + 1, x, .cons _ t, e => by
    obtain ⟨d, h1, h2⟩ := Reps.get (i := i) (v := x) t (by simpa using e)
    exact ⟨d, by simpa using h1, h2⟩
theorem Reps.get' {vs : List V} {ds : List D} {i : Nat} {d : D} (r : Reps K H vs ds) (e : ds[i]? = some d) : ∃ v, vs[i]? = some v ∧ Rep K H v d := by
  have hi : i < vs.length := by
    rw [r.length]
    exact (List.getElem?_eq_some_iff.mp e).1
  have ev : vs[i]? = some vs[i] := List.getElem?_eq_getElem hi
  obtain ⟨d', h1, h2⟩ := r.get ev
  rw [e] at h1
  cases h1
  exact ⟨_, ev, h2⟩
theorem Reps.append : ∀ {vs ws : List V} {ds es : List D}, Reps K H vs ds → Reps K H ws es → Reps K H (vs ++ ws) (ds ++ es)
  | _, _, _, _, .nil, s => s
  | _, _, _, _, .cons r t, s => .cons r (Reps.append t s)
theorem Reps.take : ∀ {vs : List V} {ds : List D} (n : Nat), Reps K H vs ds → Reps K H (vs.take n) (ds.take n)
  | _, _, 0, _ => .nil
  | _, _, _ + 1, .nil => .nil
  | _, _, n + 1, .cons r t => .cons r (Reps.take n t)
theorem Reps.drop : ∀ {vs : List V} {ds : List D} (n : Nat), Reps K H vs ds → Reps K H (vs.drop n) (ds.drop n)
  | _, _, 0, r => r
  | _, _, _ + 1, .nil => .nil
  | _, _, n + 1, .cons _ t => Reps.drop n t
theorem Reps.reverse {vs : List V} {ds : List D} (r : Reps K H vs ds) : Reps K H vs.reverse ds.reverse := by
  have go : ∀ {vs : List V} {ds : List D}, Reps K H vs ds → Reps K H vs.reverse ds.reverse := by
    intro vs
    induction vs with
    | nil => intro ds r; cases r; exact .nil
    | cons v vs ih =>
      intro ds r
      cases r with
      | cons r t =>
        rw [List.reverse_cons, List.reverse_cons]
        exact (ih t).append (.cons r .nil)
  exact go r
theorem Reps.ints : ∀ (ns : List Int), Reps K H (ns.map V.int) (ns.map D.int)
  | [] => .nil
  | n :: ns => .cons (.int n) (Reps.ints ns)
theorem Reps.of_ints : ∀ {vs : List V} {ns : List Int}, Reps K H vs (ns.map D.int) → vs = ns.map V.int
  | _, [], r => by cases r; rfl
  | _, n :: ns, r => by
    cases r with
    | cons h t =>
      cases h
      rw [Reps.of_ints t]
      rfl
theorem Reps.of_bools : ∀ {vs : List V} {ns : List Bool}, Reps K H vs (ns.map D.bool) → vs = ns.map V.bl
  | _, [], r => by cases r; rfl
  | _, n :: ns, r => by
    cases r with
    | cons h t =>
      cases h
      rw [Reps.of_bools t]
      rfl
end
/-! ### heaps without some cells -/
def sub (H : Hp) (ls : List Addr) : Hp := fun a => if a ∈ ls then none else H a
section
variable {H H' : Hp} {ls ls' : List Addr} {a : Addr} {o : HO}
theorem sub_in (h : a ∈ ls) : sub H ls a = none := if_pos h
theorem sub_out (h : a ∉ ls) : sub H ls a = H a := if_neg h
theorem sub_le : Grow (sub H ls) H := ⟨fun b o h _ => by
  by_cases hb : b ∈ ls
  · rw [sub_in hb] at h; cases h
  · rw [sub_out hb] at h; exact h⟩
theorem sub_same (e : Grow H H') : Grow (sub H ls) (sub H' ls) := ⟨fun b o h hn => by
  by_cases hb : b ∈ ls
  · rw [sub_in hb] at h; cases h
  · rw [sub_out hb] at h ⊢; exact e.get b o h hn⟩
theorem sub_less (e : ∀ a, a ∈ ls' → a ∈ ls) : Grow (sub H ls) (sub H ls') := ⟨fun b o h _ => by
  by_cases hb : b ∈ ls
  · rw [sub_in hb] at h; cases h
  · rw [sub_out hb] at h
    rw [sub_out fun z => hb (e b z)]
    exact h⟩
theorem sub_upd (h : a ∈ ls) : sub (upd H a o) ls = sub H ls := by
  funext b
  unfold sub
  by_cases hb : b ∈ ls
  · rw [if_pos hb, if_pos hb]
  · rw [if_neg hb, if_neg hb, upd_ne fun z => hb (by rw [z]; exact h)]
theorem same_upd (h : H a = none) : Same H (upd H a o) := Same.of fun b u e => by
  rw [upd_ne (ne_of_none e h)]
  exact e
/-- a new cell set aside -/
theorem sub_fresh (h : H a = none) (e : Same H H') : Grow (sub H ls) (sub H' (a :: ls)) := ⟨fun b o hb hn => by
  have h1 : b ∉ ls := fun z => by rw [sub_in z] at hb; cases hb
  rw [sub_out h1] at hb
  rw [sub_out fun z => (List.mem_cons.mp z).elim (ne_of_none hb h) h1]
  exact e.ob.get b o hb hn⟩
end
/-- a dict with tuples as keys -/
def RepTs (K : PySem.W.Frag) (H : Hp) (kvs : List (List Key × V)) (ds : List (List Key × D)) : Prop := kvs.map (·.1) = ds.map (·.1) ∧ Reps K H (kvs.map (·.2)) (ds.map (·.2))
theorem RepTs.mono {K : PySem.W.Frag} {H H' : Hp} {kvs : List (List Key × V)} {ds : List (List Key × D)} (r : RepTs K H kvs ds) (e : Grow H H') : RepTs K H' kvs ds := ⟨r.1, Reps.mono e r.2⟩
/-! ### what a value is in a frame that owns cells -/
inductive RV (K : PySem.W.Frag) (fo ls : List Addr) (H : Hp) : Bool → V → D → Prop
  | cl {b : Bool} {v : V} {d : D} : Rep K (sub H ls) v d → RV K fo ls H b v d
  | ml {a : Addr} {xs : List V} {ds : List D} : a ∉ fo → H a = some (.lst xs) → xs.length ≤ sizeLine → Reps K (sub H ls) xs ds → RV K fo ls H true (.ref a) (.list ds)
  | md {a : Addr} {kvs : List (Key × V)} {ds : List (Key × D)} : a ∉ fo → H a = some (.dK kvs) → kvs.length ≤ sizeLine → RepKs K (sub H ls) kvs ds → RV K fo ls H true (.ref a) (.dict ds)
  | mt {a : Addr} {kvs : List (List Key × V)} {ds : List (List Key × D)} : a ∉ fo → H a = some (.dT kvs) → kvs.length ≤ sizeLine → RepTs K (sub H ls) kvs ds → RV K fo ls H true (.ref a) (.tdict ds)
  | mo {a C dx : Addr} {n : Str} {fs : List (Str × V)} {ds : List (Str × D)} : a ∉ fo → PySem.W.nsIn K mainGlobals n = some (some (.ref C)) → H a = some (.ins C dx fs) → RepFs K (sub H ls) fs ds → RV K fo ls H true (.ref a) (.obj n ds)
/-- a new container of one's own at p -/
inductive FV (K : PySem.W.Frag) (ls : List Addr) (H : Hp) (p : Addr) : D → Prop
  | l {xs : List V} {ds : List D} : H p = some (.lst xs) → xs.length ≤ sizeLine → Reps K (sub H ls) xs ds → FV K ls H p (.list ds)
  | d {kvs : List (Key × V)} {ds : List (Key × D)} : H p = some (.dK kvs) → kvs.length ≤ sizeLine → RepKs K (sub H ls) kvs ds → FV K ls H p (.dict ds)
  | t {kvs : List (List Key × V)} {ds : List (List Key × D)} : H p = some (.dT kvs) → kvs.length ≤ sizeLine → RepTs K (sub H ls) kvs ds → FV K ls H p (.tdict ds)
  | o {C dx : Addr} {n : Str} {fs : List (Str × V)} {ds : List (Str × D)} : PySem.W.nsIn K mainGlobals n = some (some (.ref C)) → H p = some (.ins C dx fs) → RepFs K (sub H ls) fs ds → FV K ls H p (.obj n ds)
section
variable {K : PySem.W.Frag} {fo ls : List Addr} {H H' : Hp} {b : Bool} {v : V} {d : D}
theorem RV.clean (r : RV K fo ls H false v d) : Rep K (sub H ls) v d := by
  cases r with
  | cl r => exact r
theorem RV.up (r : RV K fo ls H b v d) : RV K fo ls H true v d := by
  cases r with
  | cl r => exact .cl r
  | ml n a b c => exact .ml n a b c
  | md n a b c => exact .md n a b c
  | mt n a b c => exact .mt n a b c
  | mo n a b c => exact .mo n a b c
/-- a dict of our own that may still be written -/
def isDic : D → Bool
  | .dict _ => true
  | .tdict _ => true
  | _ => false
theorem RV.rep (r : RV K fo ls H b v d) (h : isDic d = false) : Rep K H v d := by
  cases r with
  | cl r => exact r.mono sub_le
  | ml n a b c => exact .list a b (c.mono sub_le)
  | md n a b c => cases h
  | mt n a b c => cases h
  | mo n a b c => exact .obj a b (c.mono sub_le)
theorem RV.mono (e : Grow H H') (r : RV K fo ls H b v d) : RV K fo ls H' b v d := by
  cases r with
  | cl r => exact .cl (r.mono (sub_same e))
  | ml n a b c => exact .ml n (e _ _ a) b (c.mono (sub_same e))
  | md n a b c => exact .md n (e _ _ a) b (c.mono (sub_same e))
  | mt n a b c => exact .mt n (e _ _ a) b (c.mono (sub_same e))
  | mo n a b c => exact .mo n a (e _ _ b) (c.mono (sub_same e))
theorem RV.list {ds : List D} (r : RV K fo ls H b v (.list ds)) : ∃ a xs, v = .ref a ∧ H a = some (.lst xs) ∧ xs.length ≤ sizeLine ∧ Reps K (sub H ls) xs ds := by
  cases r with
  | cl r =>
    cases r with
    | list h l r => exact ⟨_, _, rfl, sub_le _ _ h, l, r⟩
  | ml n h l r => exact ⟨_, _, rfl, h, l, r⟩
theorem RV.tup {ds : List D} (r : RV K fo ls H b v (.tup ds)) : ∃ a xs, v = .ref a ∧ SqT K H a xs ∧ xs.length ≤ sizeLine ∧ Reps K (sub H ls) xs ds := by
  cases r with
  | cl r =>
    cases r with
    | tup h l r => exact ⟨_, _, rfl, sameT sub_le h, l, r⟩
theorem RV.tdict {ds : List (List Key × D)} (r : RV K fo ls H b v (.tdict ds)) : ∃ a xs, v = .ref a ∧ Rd H a (.dT xs) ∧ xs.length ≤ sizeLine ∧ RepTs K (sub H ls) xs ds := by
  cases r with
  | cl r =>
    cases r with
    | tdict h l k r => exact ⟨_, _, rfl, .inr ⟨_, sub_le _ _ h⟩, l, k, r⟩
  | mt n h l r => exact ⟨_, _, rfl, .inl h, l, r⟩
theorem RV.dict {ds : List (Key × D)} (r : RV K fo ls H b v (.dict ds)) : ∃ a xs, v = .ref a ∧ Rd H a (.dK xs) ∧ xs.length ≤ sizeLine ∧ RepKs K (sub H ls) xs ds := by
  cases r with
  | cl r =>
    cases r with
    | dict h l r => exact ⟨_, _, rfl, .inr ⟨_, sub_le _ _ h⟩, l, r⟩
  | md n h l r => exact ⟨_, _, rfl, .inl h, l, r⟩
end
/-! ### names as data -/
inductive DV where
  | u | v (d : D) | m (d : D) | s (d : D)
structure Fm where
  ls0 : List Addr
  H0 : Hp
  Hi : Hp
def SlotR (K : PySem.W.Frag) (fo ls own : List Addr) (H : Hp) (s : Option V) : DV → Prop
  | .u => True
  | .v d => ∃ x, s = some x ∧ Rep K (sub H ls) x d
  | .m d => ∃ a, s = some (.ref a) ∧ a ∈ own ∧ RV K fo ls H true (.ref a) d
  | .s d => ∃ a C dx n fs ds, s = some (.ref a) ∧ a ∈ fo ∧ d = .obj n ds ∧ PySem.W.nsIn K mainGlobals n = some (some (.ref C)) ∧ H a = some (.ins C dx fs) ∧ RepFs K (sub H ls) fs ds
structure EnvD (K : PySem.W.Frag) (F : Fm) (own : List Addr) (σ : L2.St) (δ : List DV) (H : Hp) : Prop where
  same : Same F.H0 H
  imm : Grow F.Hi (sub H (F.ls0 ++ own))
  tabs : LamX.Tabs TabsC.T H
  new : ∀ l, l ∈ own → F.H0 l = none
  trk : ∀ l, l ∈ F.ls0 ++ own → ∃ o, H l = some o ∧ Plain o
  sep : ∀ l, l ∈ own → l ∉ F.ls0
  len : σ.length = δ.length
  slot : ∀ (i : Nat) (dv : DV), δ[i]? = some dv → ∃ s, σ[i]? = some s ∧ SlotR K F.ls0 (F.ls0 ++ own) own H s dv
  lent : ∀ (i : Nat) (d : D) (a : Addr), δ[i]? = some (.s d) → σ[i]? = some (some (.ref a)) → F.H0 a = none
  alone : ∀ (i j : Nat) (di dj : D) (a : Addr), δ[i]? = some (.s di) → δ[j]? = some (.s dj) → σ[i]? = some (some (.ref a)) → σ[j]? = some (some (.ref a)) → i = j
  apart : ∀ (i j : Nat) (di dj : D) (a : Addr), δ[i]? = some (.m di) → δ[j]? = some (.m dj) → σ[i]? = some (some (.ref a)) → σ[j]? = some (some (.ref a)) → i = j
theorem SlotR.mono {K : PySem.W.Frag} {fo ls own : List Addr} {H H' : Hp} {s : Option V} {dv : DV} (e : Grow H H') (h : SlotR K fo ls own H s dv) : SlotR K fo ls own H' s dv := by
  cases dv with
  | u => trivial
  | v d => obtain ⟨x, e1, r⟩ := h; exact ⟨x, e1, r.mono (sub_same e)⟩
  | m d => obtain ⟨a, e1, h1, r⟩ := h; exact ⟨a, e1, h1, r.mono e⟩
  | s d => obtain ⟨a, C, dx, n, fs, ds, e1, h1, h2, h3, h4, r⟩ := h; exact ⟨a, C, dx, n, fs, ds, e1, h1, h2, h3, e _ _ h4, r.mono (sub_same e)⟩
section
variable {K : PySem.W.Frag} {F : Fm} {own : List Addr} {σ : L2.St} {δ : List DV} {H H' : Hp}
theorem EnvD.grow (E : EnvD K F own σ δ H) (e : Same H H') : EnvD K F own σ δ H' :=
  ⟨E.same.trans e, E.imm.trans (sub_same e), e.tb E.tabs, E.new, fun l h => by
    obtain ⟨o, q, n⟩ := E.trk l h
    exact ⟨o, e _ _ q n.1, n⟩, E.sep, E.len, fun i dv h => let ⟨s, q, r⟩ := E.slot i dv h; ⟨s, q, r.mono e⟩, E.lent, E.alone, E.apart⟩
end
/-! ### errors as data -/
/-- the exception that lies: its class, its one field -/
def RepEr (K : PySem.W.Frag) (ls : List Addr) (H : Hp) (cls : Value) (dd : Option Addr) (er : Er) : Prop :=
  (∃ C, PySem.W.nsIn K mainGlobals er.cls = some (some (.ref C)) ∧ cls = .ref C) ∧ ∀ f d, er.arg = some (f, d) → ∃ dx v, dd = some dx ∧ sub H ls dx = some (.xd [(f, v)]) ∧ Rep K (sub H ls) v d
theorem RepEr.less {K : PySem.W.Frag} {ls ls' : List Addr} {H : Hp} {cls : Value} {dd : Option Addr} {er : Er} (h : RepEr K ls H cls dd er) (e : ∀ a, a ∈ ls' → a ∈ ls) : RepEr K ls' H cls dd er :=
  ⟨h.1, fun f d q => let ⟨dx, v, a, b, c⟩ := h.2 f d q; ⟨dx, v, a, (sub_less e) _ _ b, c.mono (sub_less e)⟩⟩
abbrev NoE : Er → Prop := fun _ => False
abbrev NoW : WX := fun _ _ _ _ => False
/-- an error that is wished for is taken -/
def Pass (K : PySem.W.Frag) (W : WX) (ls : List Addr) (σ : L2.St) (H : Hp) (EK : Er → Prop) : Prop := ∀ er cls dd H', EK er → Same H H' → RepEr K ls H' cls dd er → W cls dd σ H'
theorem Pass.on {K : PySem.W.Frag} {W : WX} {ls : List Addr} {σ : L2.St} {H H' : Hp} {EK : Er → Prop} (h : Pass K W ls σ H EK) (e : Same H H') : Pass K W ls σ H' EK := fun er cls dd H2 k q r => h er cls dd H2 k (e.trans q) r
/-! ### the judgements -/
/-- an expression as data: from the names, what is wanted of its value, of an error -/
abbrev TM := List DV → (D → Prop) → (Er → Prop) → Prop
abbrev BM := List DV → (Bool → Prop) → (Er → Prop) → Prop
abbrev LM := List DV → (List D → Prop) → (Er → Prop) → Prop
inductive RVs (K : PySem.W.Frag) (fo ls : List Addr) (H : Hp) (b : Bool) : List V → List D → Prop
  | nil : RVs K fo ls H b [] []
  | cons {v : V} {vs : List V} {d : D} {ds : List D} : RV K fo ls H b v d → RVs K fo ls H b vs ds → RVs K fo ls H b (v :: vs) (d :: ds)
theorem RVs.mono {K : PySem.W.Frag} {fo ls : List Addr} {H H' : Hp} {b : Bool} (e : Same H H') : ∀ {vs : List V} {ds : List D}, RVs K fo ls H b vs ds → RVs K fo ls H' b vs ds
  | _, _, .nil => .nil
  | _, _, .cons r t => .cons (r.mono e) (RVs.mono e t)
theorem RVs.clean {K : PySem.W.Frag} {fo ls : List Addr} {H : Hp} : ∀ {vs : List V} {ds : List D}, RVs K fo ls H false vs ds → Reps K (sub H ls) vs ds
  | _, _, .nil => .nil
  | _, _, .cons r t => .cons r.clean (RVs.clean t)
theorem RVs.up {K : PySem.W.Frag} {fo ls : List Addr} {H : Hp} {b : Bool} : ∀ {vs : List V} {ds : List D}, RVs K fo ls H b vs ds → RVs K fo ls H true vs ds
  | _, _, .nil => .nil
  | _, _, .cons r t => .cons r.up (RVs.up t)
theorem RVs.length {K : PySem.W.Frag} {fo ls : List Addr} {H : Hp} {b : Bool} : ∀ {vs : List V} {ds : List D}, RVs K fo ls H b vs ds → vs.length = ds.length
  | _, _, .nil => rfl
  | _, _, .cons _ t => by rw [List.length_cons, List.length_cons, RVs.length t]
structure At (K : PySem.W.Frag) (W : WX) (σ : L2.St) (H : Hp) (F : Fm) (own : List Addr) (δ : List DV) (EK : Er → Prop) : Prop where
  env : EnvD K F own σ δ H
  pass : Pass K W (F.ls0 ++ own) σ H EK
theorem At.on {K : PySem.W.Frag} {W : WX} {σ : L2.St} {H H' : Hp} {F : Fm} {own : List Addr} {δ : List DV} {EK : Er → Prop} (h : At K W σ H F own δ EK) (e : Same H H') : At K W σ H' F own δ EK := ⟨h.env.grow e, h.pass.on e⟩
def tm (K : PySem.W.Frag) (W : WX) (b : Bool) (m : TM) : TE := fun σ H Q => ∃ (F : Fm) (own : List Addr) (δ : List DV) (P : D → Prop) (EK : Er → Prop), At K W σ H F own δ EK ∧ m δ P EK ∧
  ∀ d v H', P d → Same H H' → RV K F.ls0 (F.ls0 ++ own) H' b v d → Q v H'
def DE (X : Cx) (W : WX) (e : Expr) (b : Bool) (m : TM) : Prop := PE X e (tm X.K W b m)
def tb (K : PySem.W.Frag) (W : WX) (m : BM) : TT := fun σ H Q => ∃ (F : Fm) (own : List Addr) (δ : List DV) (P : Bool → Prop) (EK : Er → Prop), At K W σ H F own δ EK ∧ m δ P EK ∧ ∀ c H', P c → Same H H' → Q c H'
def DT (X : Cx) (W : WX) (e : Expr) (m : BM) : Prop := PT X e (tb X.K W m)
def DW (X : Cx) (W : WX) (e : Expr) (m : BM) : Prop := PW X e (tb X.K W m)
def tal (K : PySem.W.Frag) (W : WX) (b : Bool) (m : LM) : TA := fun σ H Q => ∃ (F : Fm) (own : List Addr) (δ : List DV) (P : List D → Prop) (EK : Er → Prop), At K W σ H F own δ EK ∧ m δ P EK ∧
  ∀ ds vs H', P ds → Same H H' → RVs K F.ls0 (F.ls0 ++ own) H' b vs ds → Q vs H'
def DA (X : Cx) (W : WX) (es : List Expr) (b : Bool) (m : LM) : Prop := PA X es (tal X.K W b m)
/-! weakening -/
theorem PE.imp {X : Cx} {e : Expr} {t t' : TE} (h : PE X e t) (k : ∀ σ H Q, t' σ H Q → t σ H Q) : PE X e t' := ⟨fun pins s σ H Q I q => h.run pins s σ H Q I (k _ _ _ q)⟩
theorem PT.imp {X : Cx} {e : Expr} {t t' : TT} (h : PT X e t) (k : ∀ σ H Q, t' σ H Q → t σ H Q) : PT X e t' := ⟨fun pins s σ H Q I q => h.run pins s σ H Q I (k _ _ _ q)⟩
theorem PW.imp {X : Cx} {e : Expr} {t t' : TT} (h : PW X e t) (k : ∀ σ H Q, t' σ H Q → t σ H Q) : PW X e t' := ⟨fun wh pins s σ H Q I q => h.run wh pins s σ H Q I (k _ _ _ q)⟩
theorem PA.imp {X : Cx} {es : List Expr} {t t' : TA} (h : PA X es t) (k : ∀ σ H Q, t' σ H Q → t σ H Q) : PA X es t' := ⟨fun pos pins s σ H Q I q => h.run pos pins s σ H Q I (k _ _ _ q)⟩
theorem PS.imp {X : Cx} {e : Stmt} {t t' : TS} (h : PS X e t) (k : ∀ D σ H, t' D σ H → t D σ H) : PS X e t' := ⟨fun pins s σ H D I q => h.run pins s σ H D I (k _ _ _ q)⟩
theorem PSs.imp {X : Cx} {e : List Stmt} {t t' : TS} (h : PSs X e t) (k : ∀ D σ H, t' D σ H → t D σ H) : PSs X e t' := ⟨fun pins s σ H D I q => h.run pins s σ H D I (k _ _ _ q)⟩
section
variable {X : Cx} {W : WX} {a b c e : Expr} {es : List Expr} {ba bb bc : Bool} {ma mb mc : TM} {pos : Pos}
theorem DE.up (h : DE X W e ba ma) : DE X W e true ma := PE.imp h fun σ H Q ⟨F, own, δ, P, EK, A, m, q⟩ => ⟨F, own, δ, P, EK, A, m, fun d v H' p s r => q d v H' p s r.up⟩
theorem DE.dn (h : DE X W e false ma) : DE X W e ba ma := PE.imp h fun σ H Q ⟨F, own, δ, P, EK, A, m, q⟩ => ⟨F, own, δ, P, EK, A, m, fun d v H' p s r => q d v H' p s (.cl r.clean)⟩
/-! ### names, constants -/
def mC (d : D) : TM := fun _ Q _ => Q d
def mVar (i : Nat) : TM := fun δ Q _ => ∃ d, δ[i]? = some (.v d) ∧ Q d
def mMut (i : Nat) : TM := fun δ Q _ => ∃ d, δ[i]? = some (.m d) ∧ Q d
theorem de_const {v : V} {d : D} (h : PE X e (tC v)) (r : ∀ H, Rep X.K H v d) : DE X W e false (mC d) := PE.imp h fun σ H Q ⟨F, own, δ, P, EK, A, m, q⟩ => q d v H m (Same.refl H) (.cl (r _))
theorem de_int {i : Int} {j : Nat} : DE X W (.Constant (.int i) j pos) false (mC (.int i)) := de_const pe_int fun _ => .int i
theorem de_bool {i : Bool} {j : Nat} : DE X W (.Constant (.bool i) j pos) false (mC (.bool i)) := de_const pe_bl fun _ => .bool i
theorem de_none {j : Nat} : DE X W (.Constant .none j pos) false (mC .none) := de_const pe_non fun _ => .non
theorem de_str {x : Str} {j : Nat} : DE X W (.Constant (.str x) j pos) false (mC (.str x)) := de_const pe_str fun _ => .str x
theorem de_var (i : Nat) {x : Str} (h : PE X (.Name x pos) (tVar i)) : DE X W (.Name x pos) false (mVar i) := PE.imp h fun σ H Q ⟨F, own, δ, P, EK, A, m, q⟩ => by
  obtain ⟨d, e, m⟩ := m
  obtain ⟨s, hs, x, rfl, r⟩ := A.env.slot i _ e
  exact ⟨x, hs, q d x H m (Same.refl H) (.cl r)⟩
theorem de_mut (i : Nat) {x : Str} (h : PE X (.Name x pos) (tVar i)) : DE X W (.Name x pos) true (mMut i) := PE.imp h fun σ H Q ⟨F, own, δ, P, EK, A, m, q⟩ => by
  obtain ⟨d, e, m⟩ := m
  obtain ⟨s, hs, x, rfl, _, r⟩ := A.env.slot i _ e
  exact ⟨_, hs, q d _ H m (Same.refl H) r⟩
/-! ### operators -/
def mBin (f : D → D → (D → Prop) → Prop) (ma mb : TM) : TM := fun δ Q E => ma δ (fun x => mb δ (fun y => f x y Q) E) E
def LinkOp (K : PySem.W.Frag) (r : R2) (f : D → D → (D → Prop) → Prop) : Prop := ∀ (fo ls : List Addr) (H : Hp) (x y : V) (dx dy : D) (P : D → Prop) (Q : VK), (∀ l, l ∈ ls → ∃ o, H l = some o ∧ Plain o) → RV K fo ls H true x dx → RV K fo ls H true y dy → f dx dy P →
  (∀ d v H', P d → Same H H' → Rep K (sub H' ls) v d → Q v H') → r x y H Q
theorem link_two {r : R2} {f : D → D → (D → Prop) → Prop} (lk : LinkOp X.K r f) {σ : L2.St} {H : Hp} {Q : VK} (h : tm X.K W false (mBin f ma mb) σ H Q) : tOp r (tm X.K W ba ma) (tm X.K W bb mb) σ H Q := by
  obtain ⟨F, own, δ, P, EK, A, m, q⟩ := h
  refine ⟨F, own, δ, _, EK, A, m, fun dx x H1 m1 s1 r1 => ?_⟩
  refine ⟨F, own, δ, _, EK, A.on s1, m1, fun dy y H2 m2 s2 r2 => ?_⟩
  exact lk _ _ H2 x y dx dy P Q (A.env.grow (s1.trans s2)).trk (r1.up.mono s2) r2.up m2 fun d v H' p s3 r3 => q d v H' p ((s1.trans s2).trans s3) (.cl r3)
theorem de_op {op : Operator} {r : R2} {f : D → D → (D → Prop) → Prop} (ho : OpR X (binaryOp op) r) (lk : LinkOp X.K r f) (ha : DE X W a ba ma) (hb : DE X W b bb mb) : DE X W (.BinOp a op b pos) false (mBin f ma mb) :=
  PE.imp (pe_op ho ha hb) fun _ _ _ h => link_two lk h
/-- comparisons: the answer is a bool, the heap as it was -/
def mCmp (f : D → D → (Bool → Prop) → Prop) (ma mb : TM) : TM := fun δ Q E => ma δ (fun x => mb δ (fun y => f x y fun c => Q (.bool c)) E) E
def mCmpT (f : D → D → (Bool → Prop) → Prop) (ma mb : TM) : BM := fun δ Q E => ma δ (fun x => mb δ (fun y => f x y Q) E) E
def LinkCmp (K : PySem.W.Frag) (r : R2) (f : D → D → (Bool → Prop) → Prop) : Prop := ∀ (fo ls : List Addr) (H : Hp) (x y : V) (dx dy : D) (P : Bool → Prop) (Q : VK), RV K fo ls H true x dx → RV K fo ls H true y dy → f dx dy P → (∀ c, P c → Q (.bl c) H) → r x y H Q
theorem LinkCmp.op {K : PySem.W.Frag} {r : R2} {f : D → D → (Bool → Prop) → Prop} (lk : LinkCmp K r f) : LinkOp K r fun x y Q => f x y fun c => Q (.bool c) := fun fo ls H x y dx dy P Q _ r1 r2 h q =>
  lk fo ls H x y dx dy _ Q r1 r2 h fun c p => q _ _ H p (Same.refl H) (.bool c)
theorem de_cmp {op : CmpOp} {r : R2} {f : D → D → (Bool → Prop) → Prop} (ho : OpR X (compareOp op) r) (lk : LinkCmp X.K r f) (hm : behindInMarks op b = false) (ha : DE X W a ba ma) (hb : DE X W b bb mb) : DE X W (.Compare a [op] [b] pos) false (mCmp f ma mb) :=
  PE.imp (pe_cmpR ho ha hb hm) fun _ _ _ h => link_two lk.op h
theorem dt_cmp {op : CmpOp} {r : R2} {f : D → D → (Bool → Prop) → Prop} (ho : OpR X (compareOp op) r) (lk : LinkCmp X.K r f) (hm : behindInMarks op b = false) (ha : DE X W a ba ma) (hb : DE X W b bb mb) : DT X W (.Compare a [op] [b] pos) (mCmpT f ma mb) :=
  PT.imp (pt_cmpR ho ha hb hm) fun σ H Q ⟨F, own, δ, P, EK, A, m, q⟩ => by
    refine ⟨F, own, δ, _, EK, A, m, fun dx x H1 m1 s1 r1 => ?_⟩
    refine ⟨F, own, δ, _, EK, A.on s1, m1, fun dy y H2 m2 s2 r2 => ?_⟩
    exact lk _ _ H2 x y dx dy P _ (r1.up.mono s2) r2.up m2 fun c p => ⟨c, rfl, q c H2 p (s1.trans s2)⟩
def mChain (f g : D → D → (Bool → Prop) → Prop) (ma mb mc : TM) : TM := fun δ Q E => ma δ (fun x => mb δ (fun y => f x y fun c => if c = true then mc δ (fun z => g y z fun c' => Q (.bool c')) E else Q (.bool false)) E) E
def mChainT (f g : D → D → (Bool → Prop) → Prop) (ma mb mc : TM) : BM := fun δ Q E => ma δ (fun x => mb δ (fun y => f x y fun c => if c = true then mc δ (fun z => g y z Q) E else Q false) E) E
theorem de_chain {op op' : CmpOp} {r r' : R2} {f g : D → D → (Bool → Prop) → Prop} (ho : OpR X (compareOp op) r) (lk : LinkCmp X.K r f) (ho' : OpR X (compareOp op') r') (lk' : LinkCmp X.K r' g) (ha : DE X W a ba ma) (hb : DE X W b bb mb) (hc : DE X W c bc mc) (hm : lastMarks [op, op'] [b, c] = false := by with_unfolding_all rfl) :
    DE X W (.Compare a [op, op'] [b, c] pos) false (mChain f g ma mb mc) :=
  PE.imp (pe_chain ho ho' ha hb hc hm) fun σ H Q ⟨F, own, δ, P, EK, A, m, q⟩ => by
    refine ⟨F, own, δ, _, EK, A, m, fun dx x H1 m1 s1 r1 => ?_⟩
    refine ⟨F, own, δ, _, EK, A.on s1, m1, fun dy y H2 m2 s2 r2 => ?_⟩
    refine lk _ _ H2 x y dx dy _ _ (r1.up.mono s2) r2.up m2 fun k p => ⟨k, rfl, ?_⟩
    cases k with
    | false => exact iteF (q _ _ H2 (by simpa using p) (s1.trans s2) (.cl (.bool false)))
    | true =>
      refine iteT ⟨F, own, δ, _, EK, A.on (s1.trans s2), (by simpa using p), fun dz z H3 m3 s3 r3 => ?_⟩
      exact lk' _ _ H3 y z dy dz _ _ (r2.up.mono s3) r3.up m3 fun k' p' => q _ _ H3 p' ((s1.trans s2).trans s3) (.cl (.bool k'))
end
end DL
set_option Elab.async false
set_option linter.all false
set_option maxRecDepth 100000
set_option maxHeartbeats 4000000
/-! DL2: and, or, not; argument lists, displays; places, slices; built-ins. -/
namespace DL
open PySem PySem.Spec PyProof.Rows L2
variable [TabsC]
section
variable {X : Cx} {W : WX} {a b c e : Expr} {es rest : List Expr} {ba bb bc : Bool} {ma mb mc : TM} {na nb : BM} {la : LM} {pos : Pos}
/-! ### tests -/
/-- a value that is a bool, as a test -/
def mTest (ma : TM) : BM := fun δ Q E => ma δ (fun d => ∃ c, d = .bool c ∧ Q c) E
def mVal (na : BM) : TM := fun δ Q E => na δ (fun c => Q (.bool c)) E
theorem RV.isBool {K : PySem.W.Frag} {fo ls : List Addr} {H : Hp} {b : Bool} {v : V} {c : Bool} (r : RV K fo ls H b v (.bool c)) : v = .bl c := by
  cases r with
  | cl r => cases r; rfl
theorem dt_val (ha : DE X W a ba ma) (he : ∀ whole, isTrue a X.env whole = (do let v ← whole; standAt a.pos; holding [v] (truthy v)) := by intro _; rfl) : DT X W a (mTest ma) :=
  PT.imp (pt_val ha he) fun σ H Q ⟨F, own, δ, P, EK, A, m, q⟩ => ⟨F, own, δ, _, EK, A, m, fun d v H' ⟨c, ed, p⟩ s r => by
    subst ed
    exact ⟨c, r.isBool, q c H' p s⟩⟩
def mNotT (na : BM) : BM := fun δ Q E => na δ (fun c => Q (!c)) E
def mAndT (na nb : BM) : BM := fun δ Q E => na δ (fun c => if c = true then nb δ Q E else Q false) E
def mOrT (na nb : BM) : BM := fun δ Q E => na δ (fun c => if c = true then Q true else nb δ Q E) E
theorem dt_not (ha : DT X W a na) : DT X W (.UnaryOp .Not a pos) (mNotT na) :=
  PT.imp (pt_not ha) fun σ H Q ⟨F, own, δ, P, EK, A, m, q⟩ => ⟨F, own, δ, _, EK, A, m, fun c H' p s => q _ H' p s⟩
theorem dw_and1 (ha : DT X W a na) : DW X W (.BoolOp .And [a] pos) na := pw_and1 ha
theorem dw_or1 (ha : DT X W a na) : DW X W (.BoolOp .Or [a] pos) na := pw_or1 ha
theorem dw_and (ha : DT X W a na) (hb : DW X W (.BoolOp .And (b :: rest) pos) nb) : DW X W (.BoolOp .And (a :: b :: rest) pos) (mAndT na nb) :=
  PW.imp (pw_and ha hb) fun σ H Q ⟨F, own, δ, P, EK, A, m, q⟩ => ⟨F, own, δ, _, EK, A, m, fun c H' p s => by
    cases c with
    | true => exact iteT ⟨F, own, δ, _, EK, A.on s, (by simpa using p), fun c H2 p2 s2 => q c H2 p2 (s.trans s2)⟩
    | false => exact iteF (q _ H' (by simpa using p) s)⟩
theorem dw_or (ha : DT X W a na) (hb : DW X W (.BoolOp .Or (b :: rest) pos) nb) : DW X W (.BoolOp .Or (a :: b :: rest) pos) (mOrT na nb) :=
  PW.imp (pw_or ha hb) fun σ H Q ⟨F, own, δ, P, EK, A, m, q⟩ => ⟨F, own, δ, _, EK, A, m, fun c H' p s => by
    cases c with
    | true => exact iteT (q _ H' (by simpa using p) s)
    | false => exact iteF ⟨F, own, δ, _, EK, A.on s, (by simpa using p), fun c H2 p2 s2 => q c H2 p2 (s.trans s2)⟩⟩
theorem dt_w (h : DW X W a na) : DT X W a na := PW.pt h
/-- .. as values -/
theorem de_not (ha : DE X W a ba ma) : DE X W (.UnaryOp .Not a pos) false (mVal (mNotT (mTest ma))) :=
  PE.imp (pe_not ha) fun σ H Q ⟨F, own, δ, P, EK, A, m, q⟩ => ⟨F, own, δ, _, EK, A, m, fun d v H' ⟨c, ed, p⟩ s r => by
    subst ed
    exact ⟨c, r.isBool, q _ _ H' p s (.cl (.bool _))⟩⟩
theorem de_one {op : BoolOp} (ha : DE X W a ba ma) : DE X W (.BoolOp op [a] pos) ba ma := pe_one ha
def mAnd (ma mb : TM) : TM := fun δ Q E => ma δ (fun d => ∃ c, d = .bool c ∧ if c = true then mb δ Q E else Q (.bool false)) E
def mOr (ma mb : TM) : TM := fun δ Q E => ma δ (fun d => ∃ c, d = .bool c ∧ if c = true then Q (.bool true) else mb δ Q E) E
theorem de_and (ha : DE X W a ba ma) (hb : DE X W (.BoolOp .And (b :: rest) pos) bb mb) : DE X W (.BoolOp .And (a :: b :: rest) pos) bb (mAnd ma mb) :=
  PE.imp (pe_and ha hb) fun σ H Q ⟨F, own, δ, P, EK, A, m, q⟩ => ⟨F, own, δ, _, EK, A, m, fun d v H' ⟨c, ed, p⟩ s r => by
    subst ed
    refine ⟨c, r.isBool, ?_⟩
    cases c with
    | true => exact iteT ⟨F, own, δ, _, EK, A.on s, (by simpa using p), fun d v H2 p2 s2 r2 => q d v H2 p2 (s.trans s2) r2⟩
    | false => exact iteF (q _ _ H' (by simpa using p) s (.cl (.bool _)))⟩
def mIf (na : BM) (ma mb : TM) : TM := fun δ Q E => na δ (fun c => if c = true then ma δ Q E else mb δ Q E) E
theorem de_if (hc : DT X W c na) (ha : DE X W a ba ma) (hb : DE X W b ba mb) : DE X W (.IfExp c a b pos) ba (mIf na ma mb) :=
  PE.imp (pe_ifExp hc ha hb) fun σ H Q ⟨F, own, δ, P, EK, A, m, q⟩ => ⟨F, own, δ, _, EK, A, m, fun c H' p s => by
    cases c with
    | true => exact iteT ⟨F, own, δ, _, EK, A.on s, (by simpa using p), fun d v H2 p2 s2 r2 => q d v H2 p2 (s.trans s2) r2⟩
    | false => exact iteF ⟨F, own, δ, _, EK, A.on s, (by simpa using p), fun d v H2 p2 s2 r2 => q d v H2 p2 (s.trans s2) r2⟩⟩
def isNoneD : D → Bool | .none => true | _ => false
theorem RV.isNone {K : PySem.W.Frag} {fo ls : List Addr} {H : Hp} {b : Bool} {v : V} {d : D} (r : RV K fo ls H b v d) : decide (v = .non) = isNoneD d := by
  cases r with
  | cl r => cases r <;> rfl
  | ml _ _ _ _ => rfl
  | md _ _ _ _ => rfl
  | mt _ _ _ _ => rfl
  | mo _ _ _ _ => rfl
def fIs (x y : D) (Q : Bool → Prop) : Prop := y = .none ∧ Q (isNoneD x)
def fIsNot (x y : D) (Q : Bool → Prop) : Prop := y = .none ∧ Q (!isNoneD x)
theorem RV.non {K : PySem.W.Frag} {fo ls : List Addr} {H : Hp} {b : Bool} {v : V} (r : RV K fo ls H b v .none) : v = .non := by
  cases r with
  | cl r => cases r; rfl
theorem RV.isInt {K : PySem.W.Frag} {fo ls : List Addr} {H : Hp} {b : Bool} {v : V} {i : Int} (r : RV K fo ls H b v (.int i)) : v = .int i := by
  cases r with
  | cl r => cases r; rfl
theorem RV.isStr {K : PySem.W.Frag} {fo ls : List Addr} {H : Hp} {b : Bool} {v : V} {i : Str} (r : RV K fo ls H b v (.str i)) : v = .str i := by
  cases r with
  | cl r => cases r; rfl
/-! ### argument lists -/
def mNil : LM := fun _ Q _ => Q []
def mCons (ma : TM) (la : LM) : LM := fun δ Q E => ma δ (fun d => la δ (fun ds => Q (d :: ds)) E) E
theorem da_nil : DA X W [] ba mNil := PA.imp pa_nil fun σ H Q ⟨F, own, δ, P, EK, A, m, q⟩ => q [] [] H m (Same.refl H) .nil
theorem da_cons (ha : DE X W e ba ma) (hr : DA X W es ba la) (hs : starEach (e :: es) X.env = (false, eval e X.env) :: starEach es X.env := by rfl) : DA X W (e :: es) ba (mCons ma la) :=
  PA.imp (pa_cons ha hr hs) fun σ H Q ⟨F, own, δ, P, EK, A, m, q⟩ => ⟨F, own, δ, _, EK, A, m, fun d v H1 m1 s1 r1 =>
    ⟨F, own, δ, _, EK, A.on s1, m1, fun ds vs H2 m2 s2 r2 => q _ _ H2 m2 (s1.trans s2) (.cons (r1.mono s2) r2)⟩⟩
/-! ### displays -/
def mTup (la : LM) : TM := fun δ Q E => la δ (fun ds => ds.length ≤ sizeLine ∧ Q (.tup ds)) E
def mLst (la : LM) : TM := fun δ Q E => la δ (fun ds => ds.length ≤ sizeLine ∧ Q (.list ds)) E
theorem de_tup {x1 : Nat} (h : DA X W es false la) : DE X W (.Tuple es x1 pos) false (mTup la) :=
  PE.imp (pe_tup h) fun σ H Q ⟨F, own, δ, P, EK, A, m, q⟩ => ⟨F, own, δ, _, EK, A, m, fun ds vs H1 m1 s1 r1 => by
    obtain ⟨hl, m1⟩ := m1
    have hz : vs.length ≤ sizeLine := by rw [r1.length]; exact hl
    refine ⟨hz, fun p hp => ?_⟩
    have hn : p ∉ F.ls0 ++ own := fun z => by
      obtain ⟨o, e, nn⟩ := (A.env.grow s1).trk p z
      rw [hp] at e; cases e
    refine q _ _ _ m1 (s1.trans (same_upd hp)) (.cl (.tup (.of ?_) hz (r1.clean.mono (sub_same (same_upd hp).ob))))
    rw [sub_out hn]
    exact upd_same⟩
/-- a new container of our own: it was not there, its items do not hang on it -/
def tf (K : PySem.W.Frag) (W : WX) (m : TM) : TE := fun σ H Q => ∃ (F : Fm) (own : List Addr) (δ : List DV) (P : D → Prop) (EK : Er → Prop), At K W σ H F own δ EK ∧ m δ P EK ∧
  ∀ d p H', P d → H p = none → Same H H' → FV K (p :: (F.ls0 ++ own)) H' p d → Q (.ref p) H'
def DF (X : Cx) (W : WX) (e : Expr) (m : TM) : Prop := PE X e (tf X.K W m)
theorem new_out {K : PySem.W.Frag} {W : WX} {σ : L2.St} {H : Hp} {F : Fm} {own : List Addr} {δ : List DV} {EK : Er → Prop} {p : Addr} (A : At K W σ H F own δ EK) (hp : H p = none) : p ∉ F.ls0 ++ own := fun z => by
  obtain ⟨o, e, nn⟩ := A.env.trk p z
  rw [hp] at e; cases e
theorem FV.clean {K : PySem.W.Frag} {ls : List Addr} {H : Hp} {p : Addr} {d : D} (hp : p ∉ ls) (hd : isDic d = false) (r : FV K (p :: ls) H p d) : Rep K (sub H ls) (.ref p) d := by
  have le : Grow (sub H (p :: ls)) (sub H ls) := sub_less fun a h => List.mem_cons_of_mem _ h
  cases r with
  | l h l r => exact .list (by rw [sub_out hp]; exact h) l (r.mono le)
  | d h l r => cases hd
  | t h l r => cases hd
  | o c h r => exact .obj c (by rw [sub_out hp]; exact h) (r.mono le)
/-- a cell's tracking told anew -/
theorem Inv.retrack {pins : List (Addr × Obj)} {σ : L2.St} {H : Hp} {s : Shared} {p : Addr} {o : HO} (I : Inv X pins σ H s) (mu : Mut (H p)) (new : ObjOk X.prog X.w (upd H p o) s.heap p o) : Inv X pins σ (upd H p o) s := by
  have there : ∃ u, s.heap.get? p = some u := by
    cases e : H p with
    | none => rw [e] at mu; exact mu.elim
    | some u => exact objOk_get (I.hok p u e)
  exact I.write (h' := s.heap) (t' := s.toks) mu (.inl rfl) (fun _ _ _ h => h) there new
/-- a dict is locked for good -/
theorem Inv.locked {pins : List (Addr × Obj)} {σ : L2.St} {H : Hp} {s : Shared} {p : Addr} {kvs : List (Key × V)} (I : Inv X pins σ H s) (h : H p = some (.dK kvs)) : ∃ od, Inv X pins σ (upd H p (.frz od (.dK kvs))) s := by
  have x : ObjOk X.prog X.w H s.heap p (.dK kvs) := I.hok p _ h
  obtain ⟨od, ho⟩ := objOk_get x
  exact ⟨od, Inv.retrack I (by rw [h]; trivial) ⟨ho, x⟩⟩
theorem Inv.lockedT {pins : List (Addr × Obj)} {σ : L2.St} {H : Hp} {s : Shared} {p : Addr} {kvs : List (List Key × V)} (I : Inv X pins σ H s) (h : H p = some (.dT kvs)) : ∃ od, Inv X pins σ (upd H p (.frz od (.dT kvs))) s := I.lock h trivial
theorem pe_lockd {t : TE} (h : PE X e t) : PE X e (fun σ H Q => t σ H fun v H1 => Q v H1 ∨ (∃ a kvs, v = .ref a ∧ H1 a = some (.dK kvs) ∧ ∀ od, Q v (upd H1 a (.frz od (.dK kvs)))) ∨ ∃ a kvs, v = .ref a ∧ H1 a = some (.dT kvs) ∧ ∀ od, Q v (upd H1 a (.frz od (.dT kvs)))) := by
  refine ⟨fun pins s σ H Q I q => ?_⟩
  refine thn (h.run pins s σ H _ I q) fun u s1 ⟨v, H1, I1, rv, z⟩ => ?_
  rcases z with z | ⟨a, kvs, ev, ha, z⟩ | ⟨a, kvs, ev, ha, z⟩
  · exact ⟨v, H1, I1, rv, z⟩
  · obtain ⟨od, I2⟩ := Inv.locked I1 ha
    exact ⟨v, _, I2, rv, z od⟩
  · obtain ⟨od, I2⟩ := Inv.lockedT I1 ha
    exact ⟨v, _, I2, rv, z od⟩
theorem same_upd2 {H H' : Hp} {p : Addr} {o : HO} (h : H p = none) (s : Same H H') (hp : ∃ u, H' p = some u ∧ isTbl u = false ∧ ∀ c q, u ≠ LamX.CodeO c q) : Same H (upd H' p o) := by
  obtain ⟨u, e, n, m⟩ := hp
  exact Same.put s h e n m
theorem not_code {o : HO} (h : match o with | .ext _ => False | _ => True) : ∀ c q, o ≠ LamX.CodeO c q := fun c q z => by rw [z] at h; exact h
theorem DF.de (h : DF X W e ma) : DE X W e ba ma := DE.dn (PE.imp (pe_lockd h) fun σ H Q ⟨F, own, δ, P, EK, A, m, q⟩ => ⟨F, own, δ, P, EK, A, m, fun d p H' pd hp s r => by
  have hn := new_out A hp
  cases hd : isDic d with
  | false => exact .inl (q d _ H' pd s (.cl (r.clean hn hd)))
  | true =>
    cases r with
    | l _ _ _ => cases hd
    | o _ _ _ => cases hd
    | @t kvs ds h l r =>
      refine .inr (.inr ⟨p, kvs, rfl, h, fun od => q _ _ _ pd (same_upd2 hp s ⟨_, h, rfl, not_code trivial⟩) (.cl (.tdict (od := od) ?_ l r.1 ?_))⟩)
      · rw [sub_out hn]; exact upd_same
      · have e : Grow (sub H' (p :: (F.ls0 ++ own))) (sub (upd H' p (.frz od (.dT kvs))) (F.ls0 ++ own)) := by
          rw [← sub_upd (H := H') (o := .frz od (.dT kvs)) (List.mem_cons_self (a := p) (l := F.ls0 ++ own))]
          exact sub_less fun a h => List.mem_cons_of_mem _ h
        exact Reps.mono e r.2
    | @d kvs ds h l r =>
      refine .inr (.inl ⟨p, kvs, rfl, h, fun od => q _ _ _ pd (same_upd2 hp s ⟨_, h, rfl, not_code trivial⟩) (.cl (.dict (od := od) ?_ l ?_))⟩)
      · rw [sub_out hn]; exact upd_same
      · have e : Grow (sub H' (p :: (F.ls0 ++ own))) (sub (upd H' p (.frz od (.dK kvs))) (F.ls0 ++ own)) := by
          rw [← sub_upd (H := H') (o := .frz od (.dK kvs)) (List.mem_cons_self (a := p) (l := F.ls0 ++ own))]
          exact sub_less fun a h => List.mem_cons_of_mem _ h
        exact r.mono e⟩)
theorem df_lst (h : DA X W es false la) : DF X W (.List es pos) (mLst la) :=
  PE.imp (pe_lst h) fun σ H Q ⟨F, own, δ, P, EK, A, m, q⟩ => ⟨F, own, δ, _, EK, A, m, fun ds vs H1 m1 s1 r1 => by
    obtain ⟨hl, m1⟩ := m1
    have hz : vs.length ≤ sizeLine := by rw [r1.length]; exact hl
    refine ⟨hz, fun p hp => ?_⟩
    exact q _ _ _ m1 (s1.free hp) (s1.trans (same_upd hp)) (.l upd_same hz (r1.clean.mono (sub_fresh hp (same_upd hp))))⟩
/-! ### places -/
/-- the i-th item, from behind if i is negative -/
def fIx (x y : D) (Q : D → Prop) : Prop := match x, y with
  | .list ds, .int i => ∃ d, atI ds i = some d ∧ Q d
  | .tup ds, .int i => ∃ d, atI ds i = some d ∧ Q d
  | .script ns, .int i => ∃ n, atI ns i = some n ∧ Q (.int n)
  | .str z, .int i => ∃ c, z.length ≤ sizeLine ∧ atI z.cps.toList i = some c ∧ Q (.str ⟨#[c]⟩)
  | _, _ => False
theorem atI_rel {α β : Type} {R : α → β → Prop} {xs : List α} {ys : List β} {i : Int} {y : β} (hl : xs.length = ys.length) (h : ∀ (j : Nat) (y : β), ys[j]? = some y → ∃ x, xs[j]? = some x ∧ R x y) (e : atI ys i = some y) : ∃ x, atI xs i = some x ∧ R x y := by
  unfold atI at e ⊢
  rw [hl]
  cases q : ixN ys.length i with
  | none => rw [q] at e; cases e
  | some j =>
    rw [q] at e
    exact h j y e
theorem link_ix : LinkOp X.K (rIx X.K) fIx := by
  intro fo ls H x y dx dy P Q ht rx ry h q
  unfold fIx at h
  split at h
  · obtain ⟨d, e, p⟩ := h
    obtain ⟨a, xs, rfl, ha, hz, rs⟩ := rx.list
    obtain ⟨v, ev, rv⟩ := atI_rel rs.length (fun j y => rs.get') e
    exact .inl ⟨a, xs, _, v, rfl, ry.isInt, .of ha, ev, q d v H p (Same.refl H) rv⟩
  · obtain ⟨d, e, p⟩ := h
    obtain ⟨a, xs, rfl, ha, hz, rs⟩ := rx.tup
    obtain ⟨v, ev, rv⟩ := atI_rel rs.length (fun j y => rs.get') e
    exact .inr (.inl ⟨a, xs, _, v, rfl, ry.isInt, ha, ev, q d v H p (Same.refl H) rv⟩)
  · obtain ⟨n, e, p⟩ := h
    cases rx with
    | cl rx =>
      cases rx with
      | script hs hl =>
        obtain ⟨v, ev, rv⟩ := atI_rel (R := fun v n => v = V.int n) (xs := List.map V.int _) (by rw [List.length_map]) (fun j y h => ⟨.int y, by rw [List.getElem?_map, h]; rfl, rfl⟩) e
        subst rv
        exact .inl ⟨_, _, _, _, rfl, ry.isInt, sub_le.seq hs, ev, q _ _ H p (Same.refl H) (.int n)⟩
  · obtain ⟨c, hz, e, p⟩ := h
    have := rx.isStr
    subst this
    exact .inr (.inr ⟨_, _, _, rfl, ry.isInt, hz, e, q _ _ H p (Same.refl H) (.str _)⟩)
  · exact h.elim
theorem de_ix (hs : PlainIx b) (ha : DE X W a ba ma) (hb : DE X W b bb mb) : DE X W (.Subscript a b pos) false (mBin fIx ma mb) :=
  PE.imp (pe_ix ix_seq ha hb hs) fun _ _ _ h => link_two link_ix h
/-! ### calls of built-ins -/
def mB (f : List D → (D → Prop) → Prop) (la : LM) : TM := fun δ Q E => la δ (fun ds => f ds Q) E
def LinkB (K : PySem.W.Frag) (r : List V → Hp → VK → Prop) (f : List D → (D → Prop) → Prop) : Prop := ∀ (fo ls : List Addr) (H : Hp) (vs : List V) (ds : List D) (P : D → Prop) (Q : VK), (∀ l, l ∈ ls → ∃ o, H l = some o ∧ Plain o) → RVs K fo ls H true vs ds → f ds P →
  (∀ d v H', P d → Same H H' → Rep K (sub H' ls) v d → Q v H') → r vs H Q
theorem link_b {r : List V → Hp → VK → Prop} {f : List D → (D → Prop) → Prop} (lk : LinkB X.K r f) {σ : L2.St} {H : Hp} {Q : VK} (h : tm X.K W false (mB f la) σ H Q) : tCB r (tal X.K W ba la) σ H Q := by
  obtain ⟨F, own, δ, P, EK, A, m, q⟩ := h
  refine ⟨F, own, δ, _, EK, A, m, fun ds vs H1 m1 s1 r1 => ?_⟩
  exact lk _ _ H1 vs ds P Q (A.env.grow s1).trk r1.up m1 fun d v H' p s3 r3 => q d v H' p (s1.trans s3) (.cl r3)
variable {x : Str} {p : Pos} {id T : String} {r : List V → Hp → VK → Prop} {f : List D → (D → Prop) → Prop}
theorem de_callB (hc : CallR X (.builtin id) r) (lk : LinkB X.K r f) (hg : Gl X x) (hm : X.mg x = none) (hv : bootBuiltins x = some (.builtin id)) (ha : DA X W (e :: es) ba la) (hn : x ≠ "__name__" := by decide) (hdb : (x == ("__debug__" : Str)) = false := by decide)
    (he : starEach (e :: es) X.env = (false, eval e X.env) :: starEach es X.env := by rfl) (hpl : (backTo pos (starEach es X.env)).any (·.1) = false := by rfl) : DE X W (.Call (.Name x p) (e :: es) [] pos) false (mB f la) :=
  PE.imp (pe_callB hc hg hm hv ha hn hdb he hpl) fun _ _ _ h => link_b lk h
theorem de_callT (hc : CallR X (.type T) r) (lk : LinkB X.K r f) (hg : Gl X x) (hm : X.mg x = none) (hv : bootBuiltins x = some (.type T)) (ha : DA X W (e :: es) ba la) (hn : x ≠ "__name__" := by decide) (hdb : (x == ("__debug__" : Str)) = false := by decide)
    (he : starEach (e :: es) X.env = (false, eval e X.env) :: starEach es X.env := by rfl) (hpl : (backTo pos (starEach es X.env)).any (·.1) = false := by rfl) : DE X W (.Call (.Name x p) (e :: es) [] pos) false (mB f la) :=
  PE.imp (pe_callTy hc hg hm hv ha hn hdb he hpl) fun _ _ _ h => link_b lk h
/-- .. that give a new container -/
def LinkF (K : PySem.W.Frag) (r : List V → Hp → VK → Prop) (f : List D → (D → Prop) → Prop) : Prop := ∀ (fo ls : List Addr) (H : Hp) (vs : List V) (ds : List D) (P : D → Prop) (Q : VK), (∀ l, l ∈ ls → ∃ o, H l = some o ∧ Plain o) → RVs K fo ls H true vs ds → f ds P →
  (∀ d p H', P d → H p = none → Same H H' → FV K (p :: ls) H' p d → Q (.ref p) H') → r vs H Q
theorem link_f {r : List V → Hp → VK → Prop} {f : List D → (D → Prop) → Prop} (lk : LinkF X.K r f) {σ : L2.St} {H : Hp} {Q : VK} (h : tf X.K W (mB f la) σ H Q) : tCB r (tal X.K W ba la) σ H Q := by
  obtain ⟨F, own, δ, P, EK, A, m, q⟩ := h
  refine ⟨F, own, δ, _, EK, A, m, fun ds vs H1 m1 s1 r1 => ?_⟩
  exact lk _ _ H1 vs ds P Q (A.env.grow s1).trk r1.up m1 fun d v H' p hn s3 r3 => q d v H' p (s1.free hn) (s1.trans s3) r3
theorem df_callB (hc : CallR X (.builtin id) r) (lk : LinkF X.K r f) (hg : Gl X x) (hm : X.mg x = none) (hv : bootBuiltins x = some (.builtin id)) (ha : DA X W (e :: es) ba la) (hn : x ≠ "__name__" := by decide) (hdb : (x == ("__debug__" : Str)) = false := by decide)
    (he : starEach (e :: es) X.env = (false, eval e X.env) :: starEach es X.env := by rfl) (hpl : (backTo pos (starEach es X.env)).any (·.1) = false := by rfl) : DF X W (.Call (.Name x p) (e :: es) [] pos) (mB f la) :=
  PE.imp (pe_callB hc hg hm hv ha hn hdb he hpl) fun _ _ _ h => link_f lk h
theorem df_callT (hc : CallR X (.type T) r) (lk : LinkF X.K r f) (hg : Gl X x) (hm : X.mg x = none) (hv : bootBuiltins x = some (.type T)) (ha : DA X W (e :: es) ba la) (hn : x ≠ "__name__" := by decide) (hdb : (x == ("__debug__" : Str)) = false := by decide)
    (he : starEach (e :: es) X.env = (false, eval e X.env) :: starEach es X.env := by rfl) (hpl : (backTo pos (starEach es X.env)).any (·.1) = false := by rfl) : DF X W (.Call (.Name x p) (e :: es) [] pos) (mB f la) :=
  PE.imp (pe_callTy hc hg hm hv ha hn hdb he hpl) fun _ _ _ h => link_f lk h
end
end DL
set_option Elab.async false
set_option linter.all false
set_option maxRecDepth 100000
set_option maxHeartbeats 4000000
/-! DL3: names set, cells of one's own, statements, loops. -/
namespace DL
open PySem PySem.Spec PyProof.Rows L2
variable [TabsC]
theorem sub_congr {H : Hp} {ls ls' : List Addr} (h : ∀ a, a ∈ ls ↔ a ∈ ls') : sub H ls = sub H ls' := by
  funext a
  unfold sub
  by_cases e : a ∈ ls
  · rw [if_pos e, if_pos ((h a).mp e)]
  · rw [if_neg e, if_neg fun z => e ((h a).mpr z)]
theorem mem_swap {ls own : List Addr} {p : Addr} (a : Addr) : a ∈ p :: (ls ++ own) ↔ a ∈ ls ++ (p :: own) := by
  simp only [List.mem_cons, List.mem_append]
  constructor
  · rintro (h | h | h)
    · exact .inr (.inl h)
    · exact .inl h
    · exact .inr (.inr h)
  · rintro (h | h | h)
    · exact .inr (.inl h)
    · exact .inl h
    · exact .inr (.inr h)
theorem set_get {α : Type} {l : List α} {i j : Nat} {x y : α} (h : (l.set i x)[j]? = some y) : (j = i ∧ i < l.length ∧ y = x) ∨ (j ≠ i ∧ l[j]? = some y) := by
  by_cases e : j = i
  · subst e
    by_cases hl : j < l.length
    · rw [List.getElem?_set_self hl] at h
      cases h
      exact .inl ⟨rfl, hl, rfl⟩
    · rw [List.set_eq_of_length_le (Nat.le_of_not_lt hl)] at h
      exact absurd (List.getElem?_eq_some_iff.mp h).1 hl
  · rw [List.getElem?_set_ne (Ne.symm e)] at h
    exact .inr ⟨e, h⟩
theorem TabS.less {H : Hp} {a P : Addr} {q : Str} {o : HO} (h : H a = some o) (n : Plain o) (t : LamX.TabS H P q) : LamX.TabS (sub H [a]) P q := by
  obtain ⟨ps, h1, h2, h3⟩ := t
  have nP : P ∉ [a] := fun z => by
    rw [List.mem_singleton.mp z, h] at h1
    cases h1
    cases n.1
  refine ⟨ps, by rw [sub_out nP]; exact h1, h2, fun pos cv hc => ?_⟩
  obtain ⟨c, e1, e2⟩ := h3 pos cv hc
  refine ⟨c, e1, ?_⟩
  rw [sub_out fun z => ?_]
  · exact e2
  · rw [List.mem_singleton.mp z, h] at e2
    exact n.2.1 _ _ (Option.some.inj e2)
/-- one cell is another one -/
theorem same_put {H : Hp} {a : Addr} {o : HO} : Same (sub H [a]) (upd H a o) := by
  have key : ∀ b u, sub H [a] b = some u → upd H a o b = some u := fun b u h => by
    by_cases e : b = a
    · rw [sub_in (by simp [e])] at h; cases h
    · rw [sub_out (by simpa using e)] at h
      rw [upd_ne e]; exact h
  exact Same.of key
theorem Same.but {H0 H H' : Hp} {a : Addr} {o : HO} (e : Same H0 H) (h0 : H0 a = none) (h : H a = some o) (n : Plain o) (s : Same (sub H [a]) H') : Same H0 H' := by
  refine ⟨⟨fun b u q hb => s.ob.get b u ?_ hb⟩, fun t => s.tb fun p hp => TabS.less h n (e.tb t p hp), fun b z => ?_⟩
  · rw [sub_out (by simpa using ne_of_none q h0)]
    exact e.ob.get b u q hb
  · have := s.ne b z
    by_cases hb : b = a
    · rw [hb]; exact h0
    · rw [sub_out (by simpa using hb)] at this
      exact e.ne b this
theorem Same.butSub {H H' : Hp} {a : Addr} {ls : List Addr} (ha : a ∈ ls) (s : Same (sub H [a]) H') : Grow (sub H ls) (sub H' ls) := ⟨fun b u q hb => by
  by_cases hl : b ∈ ls
  · rw [sub_in hl] at q; cases q
  · rw [sub_out hl] at q ⊢
    refine s.ob.get b u ?_ hb
    rw [sub_out (fun z => hl (by rw [List.mem_singleton.mp z]; exact ha))]
    exact q⟩
theorem Same.butAt {H H' : Hp} {a b : Addr} {u : HO} (s : Same (sub H [a]) H') (hb : b ≠ a) (h : H b = some u) (n : isTbl u = false := by rfl) : H' b = some u := s.ob.get b u (by rw [sub_out (by simpa using hb)]; exact h) n
theorem RV.grow {K : PySem.W.Frag} {fo ls ls' : List Addr} {H H' : Hp} {a : Addr} {d : D} (g : Grow (sub H ls) (sub H' ls')) (k : ∀ u, H a = some u → isTbl u = false → H' a = some u) (r : RV K fo ls H true (.ref a) d) : RV K fo ls' H' true (.ref a) d := by
  cases r with
  | cl r => exact .cl (r.mono g)
  | ml n p q r => exact .ml n (k _ p rfl) q (r.mono g)
  | md n p q r => exact .md n (k _ p rfl) q (r.mono g)
  | mt n p q r => exact .mt n (k _ p rfl) q (r.mono g)
  | mo n c p r => exact .mo n c (k _ p rfl) (r.mono g)
section
variable {K : PySem.W.Frag} {F : Fm} {own : List Addr} {σ : L2.St} {δ : List DV} {H H' : Hp}
theorem EnvD.lent_set (E : EnvD K F own σ δ H) {i : Nat} {x : DV} {σ' : L2.St} (hx : ∀ d, x ≠ .s d) (hσ : ∀ j, j ≠ i → σ'[j]? = σ[j]?) (j : Nat) (d : D) (a : Addr) (h : (δ.set i x)[j]? = some (.s d)) (h2 : σ'[j]? = some (some (.ref a))) : F.H0 a = none := by
  rcases set_get h with ⟨_, _, z⟩ | ⟨ne, h⟩
  · exact absurd z.symm (hx d)
  · rw [hσ j ne] at h2; exact E.lent j d a h h2
theorem EnvD.alone_set (E : EnvD K F own σ δ H) {i : Nat} {x : DV} {σ' : L2.St} (hx : ∀ d, x ≠ .s d) (hσ : ∀ j, j ≠ i → σ'[j]? = σ[j]?) (j k : Nat) (dj dk : D) (a : Addr) (h1 : (δ.set i x)[j]? = some (.s dj)) (h2 : (δ.set i x)[k]? = some (.s dk)) (h3 : σ'[j]? = some (some (.ref a))) (h4 : σ'[k]? = some (some (.ref a))) : j = k := by
  rcases set_get h1 with ⟨_, _, z⟩ | ⟨n1, h1⟩
  · exact absurd z.symm (hx dj)
  rcases set_get h2 with ⟨_, _, z⟩ | ⟨n2, h2⟩
  · exact absurd z.symm (hx dk)
  rw [hσ j n1] at h3
  rw [hσ k n2] at h4
  exact E.alone j k dj dk a h1 h2 h3 h4
theorem set_off {i : Nat} {x : Option V} (j : Nat) (h : j ≠ i) : (σ.set i x)[j]? = σ[j]? := List.getElem?_set_ne (Ne.symm h)
theorem EnvD.set (E : EnvD K F own σ δ H) (i : Nat) {v : V} {d : D} (r : Rep K (sub H (F.ls0 ++ own)) v d) : EnvD K F own (σ.set i (some v)) (δ.set i (.v d)) H := by
  refine ⟨E.same, E.imm, E.tabs, E.new, E.trk, E.sep, by rw [List.length_set, List.length_set]; exact E.len, fun j dv h => ?_, E.lent_set (fun d z => by cases z) set_off, E.alone_set (fun d z => by cases z) set_off, fun j k dj dk a h1 h2 h3 h4 => ?_⟩
  · rcases set_get h with ⟨rfl, hl, rfl⟩ | ⟨ne, h⟩
    · exact ⟨some v, List.getElem?_set_self (by rw [E.len]; exact hl), v, rfl, r⟩
    · obtain ⟨s, e, q⟩ := E.slot j dv h
      exact ⟨s, by rw [List.getElem?_set_ne (Ne.symm ne)]; exact e, q⟩
  · rcases set_get h1 with ⟨_, _, z⟩ | ⟨n1, h1⟩
    · cases z
    rcases set_get h2 with ⟨_, _, z⟩ | ⟨n2, h2⟩
    · cases z
    rw [List.getElem?_set_ne (Ne.symm n1)] at h3
    rw [List.getElem?_set_ne (Ne.symm n2)] at h4
    exact E.apart j k dj dk a h1 h2 h3 h4
theorem EnvD.unset (E : EnvD K F own σ δ H) (i : Nat) (s : Option V) : EnvD K F own (σ.set i s) (δ.set i .u) H := by
  refine ⟨E.same, E.imm, E.tabs, E.new, E.trk, E.sep, by rw [List.length_set, List.length_set]; exact E.len, fun j dv h => ?_, E.lent_set (fun d z => by cases z) set_off, E.alone_set (fun d z => by cases z) set_off, fun j k dj dk a h1 h2 h3 h4 => ?_⟩
  · rcases set_get h with ⟨rfl, hl, rfl⟩ | ⟨ne, h⟩
    · exact ⟨s, List.getElem?_set_self (by rw [E.len]; exact hl), trivial⟩
    · obtain ⟨s, e, q⟩ := E.slot j dv h
      exact ⟨s, by rw [List.getElem?_set_ne (Ne.symm ne)]; exact e, q⟩
  · rcases set_get h1 with ⟨_, _, z⟩ | ⟨n1, h1⟩
    · cases z
    rcases set_get h2 with ⟨_, _, z⟩ | ⟨n2, h2⟩
    · cases z
    rw [List.getElem?_set_ne (Ne.symm n1)] at h3
    rw [List.getElem?_set_ne (Ne.symm n2)] at h4
    exact E.apart j k dj dk a h1 h2 h3 h4
/-- a new cell is ours -/
theorem EnvD.grab (E : EnvD K F own σ δ H) {p : Addr} (hp : H p = none) (e : Same H H') (hn : ∃ o, H' p = some o ∧ Plain o) : EnvD K F (p :: own) σ δ H' := by
  have sf : Grow (sub H (F.ls0 ++ own)) (sub H' (F.ls0 ++ (p :: own))) := by
    rw [← sub_congr (H := H') (mem_swap (ls := F.ls0) (own := own) (p := p))]
    exact sub_fresh hp e
  have E' := E.grow e
  refine ⟨E'.same, E.imm.trans sf, E'.tabs, fun l h => ?_, fun l h => ?_, fun l h => ?_, E.len, fun j dv h => ?_, E.lent, E.alone, E.apart⟩
  · rcases List.mem_cons.mp h with rfl | h
    · exact E.same.free hp
    · exact E.new l h
  · rcases List.mem_cons.mp ((mem_swap l).mpr h) with rfl | h
    · exact hn
    · exact E'.trk l h
  · rcases List.mem_cons.mp h with rfl | h
    · intro z
      obtain ⟨o, q, nn⟩ := E.trk l (List.mem_append_left _ z)
      rw [hp] at q; cases q
    · exact E.sep l h
  · obtain ⟨s, e1, q⟩ := E.slot j dv h
    refine ⟨s, e1, ?_⟩
    cases dv with
    | u => trivial
    | v d => obtain ⟨x, e2, r⟩ := q; exact ⟨x, e2, r.mono sf⟩
    | m d =>
      obtain ⟨a, e2, ha, r⟩ := q
      exact ⟨a, e2, List.mem_cons_of_mem _ ha, r.grow sf fun u h n => e.ob.get _ u h n⟩
    | s d => obtain ⟨a, C, dx, n, fs, ds, e1, h1, h2, h3, h4, r⟩ := q; exact ⟨a, C, dx, n, fs, ds, e1, h1, h2, h3, e _ _ h4, r.mono sf⟩
theorem EnvD.setm (E : EnvD K F own σ δ H) (i : Nat) {p : Addr} {d : D} (hp : H p = none) (e : Same H H') (r : FV K (p :: (F.ls0 ++ own)) H' p d) : EnvD K F (p :: own) (σ.set i (some (.ref p))) (δ.set i (.m d)) H' := by
  have hn : ∃ o, H' p = some o ∧ Plain o := by
    cases r with
    | l h _ _ => exact ⟨_, h, plain_of⟩
    | d h _ _ => exact ⟨_, h, plain_of⟩
    | t h _ _ => exact ⟨_, h, plain_of⟩
    | o _ h _ => exact ⟨_, h, plain_of⟩
  have G := E.grab hp e hn
  have np : ∀ (j : Nat) (dj : D), δ[j]? = some (.m dj) → σ[j]? ≠ some (some (.ref p)) := fun j dj h z => by
    obtain ⟨s, e1, a, e2, ha, _⟩ := E.slot j _ h
    rw [e1] at z; cases z
    cases e2
    obtain ⟨o, q, nn⟩ := E.trk p (List.mem_append_right _ ha)
    rw [hp] at q; cases q
  refine ⟨G.same, G.imm, G.tabs, G.new, G.trk, G.sep, by rw [List.length_set, List.length_set]; exact G.len, fun j dv h => ?_, G.lent_set (fun d z => by cases z) set_off, G.alone_set (fun d z => by cases z) set_off, fun j k dj dk a h1 h2 h3 h4 => ?_⟩
  · rcases set_get h with ⟨rfl, hl, rfl⟩ | ⟨ne, h⟩
    · refine ⟨some (.ref p), List.getElem?_set_self (by rw [G.len]; exact hl), p, rfl, List.mem_cons_self, ?_⟩
      have out : p ∉ F.ls0 := fun z => by
        obtain ⟨o, q, nn⟩ := E.trk p (List.mem_append_left _ z)
        rw [hp] at q; cases q
      cases r with
      | l q1 q2 q3 => exact .ml out q1 q2 (by rw [← sub_congr mem_swap]; exact q3)
      | d q1 q2 q3 => exact .md out q1 q2 (by rw [← sub_congr mem_swap]; exact q3)
      | t q1 q2 q3 => exact .mt out q1 q2 (by rw [← sub_congr mem_swap]; exact q3)
      | o q1 q2 q3 => exact .mo out q1 q2 (by rw [← sub_congr mem_swap]; exact q3)
    · obtain ⟨s, e, q⟩ := G.slot j dv h
      exact ⟨s, by rw [List.getElem?_set_ne (Ne.symm ne)]; exact e, q⟩
  · rcases set_get h1 with ⟨a1, l1, _⟩ | ⟨n1, g1⟩
    · subst a1
      rw [List.getElem?_set_self (by rw [G.len]; exact l1)] at h3
      cases h3
      rcases set_get h2 with ⟨a2, _, _⟩ | ⟨n2, g2⟩
      · exact a2.symm
      · rw [List.getElem?_set_ne (Ne.symm n2)] at h4
        exact absurd h4 (np k dk g2)
    · rw [List.getElem?_set_ne (Ne.symm n1)] at h3
      rcases set_get h2 with ⟨a2, l2, _⟩ | ⟨n2, g2⟩
      · subst a2
        rw [List.getElem?_set_self (by rw [G.len]; exact l2)] at h4
        cases h4
        exact absurd h3 (np j dj g1)
      · rw [List.getElem?_set_ne (Ne.symm n2)] at h4
        exact E.apart j k dj dk a g1 g2 h3 h4
/-- a cell of ours is turned: all else stays -/
theorem EnvD.turn (E : EnvD K F own σ δ H) {i : Nat} {a : Addr} {d d' : D} {o o' : HO} (h : δ[i]? = some (.m d)) (hs : σ[i]? = some (some (.ref a))) (ho : H a = some o) (hp : Plain o) (s : Same (sub H [a]) H') (ho' : H' a = some o') (r : RV K F.ls0 (F.ls0 ++ own) H' true (.ref a) d') (hp' : Plain o' := by exact plain_of) : EnvD K F own σ (δ.set i (.m d')) H' := by
  obtain ⟨s0, e1, a', e2, ha, _⟩ := E.slot i _ h
  rw [e1] at hs; cases hs
  cases e2
  have hin : a ∈ F.ls0 ++ own := List.mem_append_right _ ha
  have g : Grow (sub H (F.ls0 ++ own)) (sub H' (F.ls0 ++ own)) := s.butSub hin
  refine ⟨E.same.but (E.new a ha) ho hp s, E.imm.trans g, s.tb fun p hq => TabS.less ho hp (E.tabs p hq), E.new, fun l hl => ?_, E.sep, by rw [List.length_set]; exact E.len, fun j dv hj => ?_, E.lent_set (fun d z => by cases z) (fun _ _ => rfl), E.alone_set (fun d z => by cases z) (fun _ _ => rfl), fun j k dj dk b h1 h2 h3 h4 => ?_⟩
  · by_cases z : l = a
    · exact ⟨o', by rw [z]; exact ho', hp'⟩
    · obtain ⟨u, q, nn⟩ := E.trk l hl
      exact ⟨u, s.ob.get l u (by rw [sub_out (by simpa using z)]; exact q) nn.1, nn⟩
  · rcases set_get hj with ⟨rfl, _, rfl⟩ | ⟨ne, hj⟩
    · exact ⟨_, e1, a, rfl, ha, r⟩
    · obtain ⟨s1, q1, q⟩ := E.slot j dv hj
      refine ⟨s1, q1, ?_⟩
      cases dv with
      | u => trivial
      | v d => obtain ⟨x, q2, r2⟩ := q; exact ⟨x, q2, r2.mono g⟩
      | m d2 =>
        obtain ⟨c, q2, hc, r2⟩ := q
        subst q2
        have nca : c ≠ a := fun z => ne (E.apart j i d2 d a hj h (by rw [q1, z]) e1)
        exact ⟨c, rfl, hc, r2.grow g fun u hu n => s.butAt nca hu n⟩
      | s d2 =>
        obtain ⟨b, C, dx, n, fs, ds, q2, h1, h2, h3, h4, r⟩ := q
        have nba : b ≠ a := fun z => E.sep a ha (by rw [← z]; exact h1)
        exact ⟨b, C, dx, n, fs, ds, q2, h1, h2, h3, s.butAt nba h4, r.mono g⟩
  · have back : ∀ (j : Nat) (dj : D), (δ.set i (.m d'))[j]? = some (.m dj) → ∃ dj', δ[j]? = some (.m dj') := fun j dj q => by
      rcases set_get q with ⟨rfl, _, _⟩ | ⟨_, q⟩
      · exact ⟨d, h⟩
      · exact ⟨dj, q⟩
    obtain ⟨x1, y1⟩ := back j dj h1
    obtain ⟨x2, y2⟩ := back k dk h2
    exact E.apart j k x1 x2 b y1 y2 h3 h4
/-- a cell that is lent to us is turned -/
theorem EnvD.turnS (E : EnvD K F own σ δ H) {i : Nat} {a C dx C1 dx1 : Addr} {d : D} {n : Str} {fs fs' : List (Str × V)} {ds' : List (Str × D)} (h : δ[i]? = some (.s d)) (hs : σ[i]? = some (some (.ref a))) (ho : H a = some (.ins C dx fs)) (s : Same (sub H [a]) H') (hn : PySem.W.nsIn K mainGlobals n = some (some (.ref C1))) (ho' : H' a = some (.ins C1 dx1 fs'))
    (r : RepFs K (sub H' (F.ls0 ++ own)) fs' ds') : EnvD K F own σ (δ.set i (.s (.obj n ds'))) H' := by
  obtain ⟨s0, e1, a', C', dx', n', fs0, ds0, e2, ha, ed, hC, hH, rf⟩ := E.slot i _ h
  rw [e1] at hs; cases hs
  cases e2
  have h0 := E.lent i d a h e1
  have hp : Plain (.ins C dx fs) := plain_of
  have hin : a ∈ F.ls0 ++ own := List.mem_append_left _ ha
  have g : Grow (sub H (F.ls0 ++ own)) (sub H' (F.ls0 ++ own)) := s.butSub hin
  have back : ∀ (j : Nat) (dj : D), (δ.set i (.s (.obj n ds')))[j]? = some (.s dj) → ∃ dj', δ[j]? = some (.s dj') := fun j dj q => by
    rcases set_get q with ⟨rfl, _, _⟩ | ⟨_, q⟩
    · exact ⟨d, h⟩
    · exact ⟨dj, q⟩
  refine ⟨E.same.but h0 ho hp s, E.imm.trans g, s.tb fun p hq => TabS.less ho hp (E.tabs p hq), E.new, fun l hl => ?_, E.sep, by rw [List.length_set]; exact E.len, fun j dv hj => ?_, fun j dj b h1 h2 => ?_, fun j k dj dk b h1 h2 h3 h4 => ?_, fun j k dj dk b h1 h2 h3 h4 => ?_⟩
  · by_cases z : l = a
    · exact ⟨_, by rw [z]; exact ho', plain_of⟩
    · obtain ⟨u, q, nn⟩ := E.trk l hl
      exact ⟨u, s.ob.get l u (by rw [sub_out (by simpa using z)]; exact q) nn.1, nn⟩
  · rcases set_get hj with ⟨rfl, _, rfl⟩ | ⟨ne, hj⟩
    · exact ⟨_, e1, a, C1, dx1, n, fs', ds', rfl, ha, rfl, hn, ho', r⟩
    · obtain ⟨s1, q1, q⟩ := E.slot j dv hj
      refine ⟨s1, q1, ?_⟩
      cases dv with
      | u => trivial
      | v d => obtain ⟨x, q2, r2⟩ := q; exact ⟨x, q2, r2.mono g⟩
      | m d2 =>
        obtain ⟨c, q2, hc, r2⟩ := q
        have nca : c ≠ a := fun z => E.sep c hc (by rw [z]; exact ha)
        exact ⟨c, q2, hc, r2.grow g fun u hu n => s.butAt nca hu n⟩
      | s d2 =>
        obtain ⟨b, C, dx, n, fs, ds, q2, h1, h2, h3, h4, r⟩ := q
        subst q2
        have nba : b ≠ a := fun z => ne (E.alone j i d2 d a hj h (by rw [q1, z]) e1)
        exact ⟨b, C, dx, n, fs, ds, rfl, h1, h2, h3, s.butAt nba h4, r.mono g⟩
  · obtain ⟨x1, y1⟩ := back j dj h1
    exact E.lent j x1 b y1 h2
  · obtain ⟨x1, y1⟩ := back j dj h1
    obtain ⟨x2, y2⟩ := back k dk h2
    exact E.alone j k x1 x2 b y1 y2 h3 h4
  · have bm : ∀ (j : Nat) (dj : D), (δ.set i (.s (.obj n ds')))[j]? = some (.m dj) → δ[j]? = some (.m dj) := fun j dj q => by
      rcases set_get q with ⟨_, _, z⟩ | ⟨_, q⟩
      · cases z
      · exact q
    exact E.apart j k dj dk b (bm j dj h1) (bm k dk h2) h3 h4
/-- a cell of ours is written -/
theorem EnvD.put (E : EnvD K F own σ δ H) {i : Nat} {a : Addr} {d d' : D} {o o' : HO} (h : δ[i]? = some (.m d)) (hs : σ[i]? = some (some (.ref a))) (ho : H a = some o') (r : RV K F.ls0 (F.ls0 ++ own) (upd H a o) true (.ref a) d') (hp : Plain o' := by exact plain_of) (hp2 : Plain o := by exact plain_of) : EnvD K F own σ (δ.set i (.m d')) (upd H a o) :=
  E.turn h hs ho hp same_put upd_same r hp2
/-- a cell of ours is done: plain data from now on; a dict is locked -/
theorem EnvD.fin (E : EnvD K F own σ δ H) {i : Nat} {a : Addr} {d : D} {o : HO} (h : δ[i]? = some (.m d)) (hs : σ[i]? = some (some (.ref a))) (ho : H a = some o) (hp : Plain o) (s : Same (sub H [a]) H') (r : ∀ ls, a ∉ ls → Grow (sub H (F.ls0 ++ own)) (sub H' ls) → Rep K (sub H' ls) (.ref a) d) (hn : ∃ u, H' a = some u ∧ Plain u) :
    ∃ own', EnvD K F own' σ (δ.set i (.v d)) H' := by
  obtain ⟨s0, e1, a', e2, ha, _⟩ := E.slot i _ h
  rw [e1] at hs; cases hs
  cases e2
  have hin : a ∈ F.ls0 ++ own := List.mem_append_right _ ha
  refine ⟨own.filter fun b => decide (b ≠ a), ?_⟩
  have sub' : ∀ b, b ∈ F.ls0 ++ own.filter (fun b => decide (b ≠ a)) → b ∈ F.ls0 ++ own := fun b hb => by
    rcases List.mem_append.mp hb with z | z
    · exact List.mem_append_left _ z
    · exact List.mem_append_right _ (List.mem_filter.mp z).1
  have le : Grow (sub H (F.ls0 ++ own)) (sub H' (F.ls0 ++ own.filter fun b => decide (b ≠ a))) := (s.butSub hin).trans (sub_less sub')
  have out : a ∉ F.ls0 ++ own.filter (fun b => decide (b ≠ a)) := fun z => by
    rcases List.mem_append.mp z with z | z
    · exact E.sep a ha z
    · have := (List.mem_filter.mp z).2
      simp at this
  refine ⟨E.same.but (E.new a ha) ho hp s, E.imm.trans le, s.tb fun p hq => TabS.less ho hp (E.tabs p hq), fun l hl => E.new l (List.mem_filter.mp hl).1, fun l hl => ?_, fun l hl => E.sep l (List.mem_filter.mp hl).1, by rw [List.length_set]; exact E.len, fun j dv hj => ?_, E.lent_set (fun d z => by cases z) (fun _ _ => rfl), E.alone_set (fun d z => by cases z) (fun _ _ => rfl), fun j k dj dk b h1 h2 h3 h4 => ?_⟩
  · by_cases z : l = a
    · obtain ⟨u, e, n⟩ := hn
      exact ⟨u, by rw [z]; exact e, n⟩
    · obtain ⟨u, q, nn⟩ := E.trk l (sub' l hl)
      exact ⟨u, s.ob.get l u (by rw [sub_out (by simpa using z)]; exact q) nn.1, nn⟩
  · rcases set_get hj with ⟨rfl, _, rfl⟩ | ⟨ne, hj⟩
    · exact ⟨_, e1, _, rfl, r _ out le⟩
    · obtain ⟨s1, q1, q⟩ := E.slot j dv hj
      refine ⟨s1, q1, ?_⟩
      cases dv with
      | u => trivial
      | v d => obtain ⟨x, q2, r2⟩ := q; exact ⟨x, q2, r2.mono le⟩
      | m d2 =>
        obtain ⟨c, q2, hc, r2⟩ := q
        subst q2
        have nca : c ≠ a := fun z => ne (E.apart j i d2 d a hj h (by rw [q1, z]) e1)
        exact ⟨c, rfl, List.mem_filter.mpr ⟨hc, by simpa using nca⟩, r2.grow le fun u hu n => s.butAt nca hu n⟩
      | s d2 =>
        obtain ⟨b, C, dx, n, fs, ds, q2, h1, h2, h3, h4, r⟩ := q
        have nba : b ≠ a := fun z => E.sep a ha (by rw [← z]; exact h1)
        exact ⟨b, C, dx, n, fs, ds, q2, h1, h2, h3, s.butAt nba h4, r.mono le⟩
  · rcases set_get h1 with ⟨_, _, z⟩ | ⟨n1, h1⟩
    · cases z
    rcases set_get h2 with ⟨_, _, z⟩ | ⟨n2, h2⟩
    · cases z
    exact E.apart j k dj dk b h1 h2 h3 h4
theorem same_less {a : Addr} : Same (sub H [a]) H := Same.of fun b u q => by
  by_cases hb : b ∈ [a]
  · rw [sub_in hb] at q; cases q
  · rw [sub_out hb] at q; exact q
theorem EnvD.frz (E : EnvD K F own σ δ H) {i : Nat} {d : D} (h : δ[i]? = some (.m d)) (hd : isDic d = false) : ∃ own', EnvD K F own' σ (δ.set i (.v d)) H := by
  obtain ⟨s, e1, a, e2, ha, r⟩ := E.slot i _ h
  subst e2
  obtain ⟨u, hu, nn⟩ := E.trk a (List.mem_append_right _ ha)
  cases r with
  | cl r =>
    -- nothing stands in the cell that is told: it is a name's value as it is
    refine ⟨own, E.same, E.imm, E.tabs, E.new, E.trk, E.sep, by rw [List.length_set]; exact E.len, fun j dv hj => ?_, E.lent_set (fun d z => by cases z) (fun _ _ => rfl), E.alone_set (fun d z => by cases z) (fun _ _ => rfl), fun j k dj dk b h1 h2 h3 h4 => ?_⟩
    · rcases set_get hj with ⟨rfl, _, rfl⟩ | ⟨ne, hj⟩
      · exact ⟨_, e1, _, rfl, r⟩
      · exact E.slot j dv hj
    · rcases set_get h1 with ⟨_, _, z⟩ | ⟨n1, h1⟩
      · cases z
      rcases set_get h2 with ⟨_, _, z⟩ | ⟨n2, h2⟩
      · cases z
      exact E.apart j k dj dk b h1 h2 h3 h4
  | ml p0 p1 p2 p3 => exact E.fin h e1 p1 plain_of same_less (fun ls hl g => .list (by rw [sub_out hl]; exact p1) p2 (p3.mono g)) ⟨_, p1, plain_of⟩
  | md p0 p1 p2 p3 => cases hd
  | mt p0 p1 p2 p3 => cases hd
  | mo p0 p1 p2 p3 => exact E.fin h e1 p2 plain_of same_less (fun ls hl g => .obj p1 (by rw [sub_out hl]; exact p2) (p3.mono g)) ⟨_, p2, plain_of⟩
theorem EnvD.dic (E : EnvD K F own σ δ H) {i : Nat} {ds : List (Key × D)} (h : δ[i]? = some (.m (.dict ds))) : ∃ a kvs, σ[i]? = some (some (.ref a)) ∧ a ∈ own ∧ H a = some (.dK kvs) ∧ kvs.length ≤ sizeLine ∧ RepKs K (sub H (F.ls0 ++ own)) kvs ds := by
  obtain ⟨s, e1, a, rfl, ha, r⟩ := E.slot i _ h
  cases r with
  | cl r =>
    cases r with
    | dict h1 _ _ =>
      rw [sub_in (List.mem_append_right _ ha)] at h1; cases h1
  | md n h1 h2 h3 => exact ⟨a, _, e1, ha, h1, h2, h3⟩
theorem EnvD.lockd (E : EnvD K F own σ δ H) {i : Nat} {ds : List (Key × D)} {a : Addr} {kvs : List (Key × V)} (h : δ[i]? = some (.m (.dict ds))) (e1 : σ[i]? = some (some (.ref a))) (ha : H a = some (.dK kvs)) (hz : kvs.length ≤ sizeLine) (hk : RepKs K (sub H (F.ls0 ++ own)) kvs ds) (od : Obj) :
    ∃ own', EnvD K F own' σ (δ.set i (.v (.dict ds))) (upd H a (.frz od (.dK kvs))) :=
  E.fin h e1 ha plain_of same_put (fun ls hl g => .dict (by rw [sub_out hl]; exact upd_same) hz (hk.mono g)) ⟨_, upd_same, plain_of⟩
theorem EnvD.dicT (E : EnvD K F own σ δ H) {i : Nat} {ds : List (List Key × D)} (h : δ[i]? = some (.m (.tdict ds))) : ∃ a kvs, σ[i]? = some (some (.ref a)) ∧ a ∈ own ∧ H a = some (.dT kvs) ∧ kvs.length ≤ sizeLine ∧ RepTs K (sub H (F.ls0 ++ own)) kvs ds := by
  obtain ⟨s, e1, a, rfl, ha, r⟩ := E.slot i _ h
  cases r with
  | cl r =>
    cases r with
    | tdict h1 _ _ _ =>
      rw [sub_in (List.mem_append_right _ ha)] at h1; cases h1
  | mt n h1 h2 h3 => exact ⟨a, _, e1, ha, h1, h2, h3⟩
theorem EnvD.lockdT (E : EnvD K F own σ δ H) {i : Nat} {ds : List (List Key × D)} {a : Addr} {kvs : List (List Key × V)} (h : δ[i]? = some (.m (.tdict ds))) (e1 : σ[i]? = some (some (.ref a))) (ha : H a = some (.dT kvs)) (hz : kvs.length ≤ sizeLine) (hk : RepTs K (sub H (F.ls0 ++ own)) kvs ds) (od : Obj) :
    ∃ own', EnvD K F own' σ (δ.set i (.v (.tdict ds))) (upd H a (.frz od (.dT kvs))) :=
  E.fin h e1 ha plain_of same_put (fun ls hl g => .tdict (by rw [sub_out hl]; exact upd_same) hz hk.1 (Reps.mono g hk.2)) ⟨_, upd_same, plain_of⟩
/-- another floor -/
theorem EnvD.floor (E : EnvD K F own σ δ H) : EnvD K { F with Hi := sub H (F.ls0 ++ own) } own σ δ H := ⟨E.same, Grow.refl _, E.tabs, E.new, E.trk, E.sep, E.len, E.slot, E.lent, E.alone, E.apart⟩
theorem EnvD.unfloor {Hi : Hp} (E : EnvD K { F with Hi := Hi } own σ δ H) (h : Grow F.Hi Hi) : EnvD K F own σ δ H := ⟨E.same, h.trans E.imm, E.tabs, E.new, E.trk, E.sep, E.len, E.slot, E.lent, E.alone, E.apart⟩
end
/-! ### statements -/
structure KD where
  nx : List DV → Prop
  rt : List DV → D → Prop
  bk : List DV → Prop
  ct : List DV → Prop
  er : List DV → Er → Prop
abbrev SM := List DV → KD → Prop
structure LinkS (K : PySem.W.Frag) (W : WX) (F : Fm) (k : KD) (D : Ends) : Prop where
  nx : ∀ σ H own δ, EnvD K F own σ δ H → k.nx δ → D.nx σ H
  rt : ∀ v σ H own δ d, EnvD K F own σ δ H → Rep K (sub H F.ls0) v d → k.rt δ d → D.rt v H
  bk : ∀ σ H own δ, EnvD K F own σ δ H → k.bk δ → D.bk σ H
  ct : ∀ σ H own δ, EnvD K F own σ δ H → k.ct δ → D.ct σ H
  er : ∀ er cls dd σ H own δ, EnvD K F own σ δ H → k.er δ er → RepEr K (F.ls0 ++ own) H cls dd er → W cls dd σ H
def ts (K : PySem.W.Frag) (W : WX) (m : SM) : TS := fun D σ H => ∃ (F : Fm) (own : List Addr) (δ : List DV) (k : KD), EnvD K F own σ δ H ∧ m δ k ∧ LinkS K W F k D
def DS (X : Cx) (W : WX) (st : Stmt) (m : SM) : Prop := PS X st (ts X.K W m)
def DSs (X : Cx) (W : WX) (sts : List Stmt) (m : SM) : Prop := PSs X sts (ts X.K W m)
theorem LinkS.at {K : PySem.W.Frag} {W : WX} {F : Fm} {k : KD} {D : Ends} {σ : L2.St} {H : Hp} {own : List Addr} {δ : List DV} (L : LinkS K W F k D) (E : EnvD K F own σ δ H) : At K W σ H F own δ (k.er δ) :=
  ⟨E, fun er cls dd H' p s r => L.er er cls dd σ H' own δ (E.grow s) p r⟩
section
variable {X : Cx} {W : WX} {a b c e o : Expr} {es rest : List Expr} {st : Stmt} {sts sts' : List Stmt} {ba bb bc : Bool} {ma mb mc : TM} {na nb : BM} {la : LM} {pos : Pos} {m m' : SM}
def sNext : SM := fun δ k => k.nx δ
def sSeq (m m' : SM) : SM := fun δ k => m δ { k with nx := fun δ' => m' δ' k }
theorem dss_nil : DSs X W [] sNext := PSs.imp pss_nil fun D σ H ⟨F, own, δ, k, E, h, L⟩ => L.nx σ H own δ E h
theorem dss_one (h : DS X W st m) : DSs X W [st] m := pss_one h
theorem dss_cons (h : DS X W st m) (h2 : DSs X W sts m') : DSs X W (st :: sts) (sSeq m m') :=
  PSs.imp (pss_cons h h2) fun D σ H ⟨F, own, δ, k, E, h, L⟩ => ⟨F, own, δ, _, E, h, ⟨fun σ' H' own' δ' E' h' => ⟨F, own', δ', k, E', h', L⟩, L.rt, L.bk, L.ct, L.er⟩⟩
/-- a cell of ours is done -/
def frzD (i : Nat) (δ : List DV) : List DV := match δ[i]? with
  | some (.m d) => δ.set i (.v d)
  | _ => δ
def sFrz (i : Nat) (m : SM) : SM := fun δ k => m (frzD i δ) k
theorem dss_frz (i : Nat) (h : DSs X W sts m) : DSs X W sts (sFrz i m) := by
  refine ⟨fun pins s σ H D I ⟨F, own, δ, k, E, q, L⟩ => ?_⟩
  unfold sFrz frzD at q
  split at q
  · rename_i d e
    cases hd : isDic d with
    | false =>
      obtain ⟨own', E'⟩ := E.frz e hd
      exact h.run pins s σ H D I ⟨F, own', _, k, E', q, L⟩
    | true =>
      cases d with
      | dict ds =>
        obtain ⟨a, kvs, e1, ha, h1, h2, h3⟩ := E.dic e
        obtain ⟨od, I2⟩ := Inv.locked I h1
        obtain ⟨own', E'⟩ := E.lockd e e1 h1 h2 h3 od
        exact h.run pins s σ _ D I2 ⟨F, own', _, k, E', q, L⟩
      | tdict ds =>
        obtain ⟨a, kvs, e1, ha, h1, h2, h3⟩ := E.dicT e
        obtain ⟨od, I2⟩ := Inv.lockedT I h1
        obtain ⟨own', E'⟩ := E.lockdT e e1 h1 h2 h3 od
        exact h.run pins s σ _ D I2 ⟨F, own', _, k, E', q, L⟩
      | _ => cases hd
  · exact h.run pins s σ H D I ⟨F, own, δ, k, E, q, L⟩
def sFalse : SM := fun _ _ => False
theorem dss_never : DSs X W sts sFalse := PSs.imp pss_never fun D σ H ⟨F, own, δ, k, E, h, L⟩ => h
def sBreak : SM := fun δ k => k.bk δ
def sCont : SM := fun δ k => k.ct δ
theorem ds_break : DS X W (.Break pos) sBreak := PS.imp ps_break fun D σ H ⟨F, own, δ, k, E, h, L⟩ => L.bk σ H own δ E h
def sExpr (ma : TM) : SM := fun δ k => ma δ (fun _ => k.nx δ) (k.er δ)
theorem ds_expr (h : DE X W e ba ma) (hs : swapsWith e none pos.line X.env = pure false := by rfl) : DS X W (.Expr e pos) (sExpr ma) :=
  PS.imp (ps_expr h hs) fun D σ H ⟨F, own, δ, k, E, h, L⟩ => ⟨F, own, δ, _, _, L.at E, h, fun d v H' p s r => L.nx σ H' own δ (E.grow s) p⟩
def sRet (ma : TM) : SM := fun δ k => ma δ (k.rt δ) (k.er δ)
theorem RV.out {K : PySem.W.Frag} {F : Fm} {own : List Addr} {H' : Hp} {b : Bool} {v : V} {d : D} (hd : b = false ∨ isDic d = false) (r : RV K F.ls0 (F.ls0 ++ own) H' b v d) : Rep K (sub H' F.ls0) v d := by
  have le : Grow (sub H' (F.ls0 ++ own)) (sub H' F.ls0) := sub_less fun a h => List.mem_append_left _ h
  cases r with
  | cl r => exact r.mono le
  | ml n h l r => exact .list (by rw [sub_out n]; exact h) l (r.mono le)
  | md n h l r => rcases hd with z | z <;> cases z
  | mt n h l r => rcases hd with z | z <;> cases z
  | mo n c h r => exact .obj c (by rw [sub_out n]; exact h) (r.mono le)
theorem ds_ret (h : DE X W e false ma) : DS X W (.Return (some e) pos) (sRet ma) :=
  PS.imp (ps_ret h) fun D σ H ⟨F, own, δ, k, E, h, L⟩ => ⟨F, own, δ, _, _, L.at E, h, fun d v H' p s r => L.rt v σ H' own δ d (E.grow s) (r.out (.inl rfl)) p⟩
def sRetN : SM := fun δ k => k.rt δ .none
def sIf (na : BM) (m m' : SM) : SM := fun δ k => na δ (fun c => if c = true then m δ k else m' δ k) (k.er δ)
theorem ds_if (hc : DT X W c na) (ha : DSs X W sts m) (hb : DSs X W sts' m') : DS X W (.If c sts sts' pos) (sIf na m m') :=
  PS.imp (ps_if hc ha hb) fun D σ H ⟨F, own, δ, k, E, h, L⟩ => ⟨F, own, δ, _, _, L.at E, h, fun c H' p s => by
    cases c with
    | true => exact iteT ⟨F, own, δ, k, E.grow s, (by simpa using p), L⟩
    | false => exact iteF ⟨F, own, δ, k, E.grow s, (by simpa using p), L⟩⟩
/-! ### targets -/
abbrev GM := D → List DV → (List DV → Prop) → Prop
abbrev GMs := List D → List DV → (List DV → Prop) → Prop
def tgm (K : PySem.W.Frag) (g : GM) : TG := fun v σ H Q => ∃ (F : Fm) (own : List Addr) (δ : List DV) (d : D) (P : List DV → Prop), EnvD K F own σ δ H ∧ Rep K (sub H (F.ls0 ++ own)) v d ∧ g d δ P ∧ ∀ σ' δ', EnvD K F own σ' δ' H → P δ' → Q σ' H
def tgms (K : PySem.W.Frag) (g : GMs) : TGs := fun vs σ H Q => ∃ (F : Fm) (own : List Addr) (δ : List DV) (ds : List D) (P : List DV → Prop), EnvD K F own σ δ H ∧ Reps K (sub H (F.ls0 ++ own)) vs ds ∧ g ds δ P ∧ ∀ σ' δ', EnvD K F own σ' δ' H → P δ' → Q σ' H
def DG (X : Cx) (e : Expr) (g : GM) : Prop := PG X e (tgm X.K g)
def DGs (X : Cx) (es : List Expr) (g : GMs) : Prop := PGs X es (tgms X.K g)
theorem PG.imp {X : Cx} {e : Expr} {t t' : TG} (h : PG X e t) (k : ∀ v σ H Q, t' v σ H Q → t v σ H Q) : PG X e t' := ⟨fun pins s σ H v u Q I r q => h.run pins s σ H v u Q I r (k _ _ _ _ q)⟩
theorem PGs.imp {X : Cx} {e : List Expr} {t t' : TGs} (h : PGs X e t) (k : ∀ v σ H Q, t' v σ H Q → t v σ H Q) : PGs X e t' := ⟨fun pins s σ H v u Q I r q => h.run pins s σ H v u Q I r (k _ _ _ _ q)⟩
def gN (i : Nat) : GM := fun d δ P => P (δ.set i (.v d))
theorem dg_name (i : Nat) {x : Str} (h : PG X (.Name x pos) (gName i)) : DG X (.Name x pos) (gN i) := PG.imp h fun v σ H Q ⟨F, own, δ, d, P, E, r, g, q⟩ => q _ _ (E.set i r) g
def gsNil : GMs := fun ds δ P => ds = [] ∧ P δ
def gsCons (g : GM) (gs : GMs) : GMs := fun ds δ P => ∃ d r, ds = d :: r ∧ g d δ fun δ' => gs r δ' P
theorem dgs_nil : DGs X [] gsNil := PGs.imp pgs_nil fun vs σ H Q ⟨F, own, δ, ds, P, E, r, g, q⟩ => by
  obtain ⟨rfl, g⟩ := g
  cases r
  exact ⟨rfl, q _ _ E g⟩
theorem dgs_cons {g : GM} {gs : GMs} (h1 : DG X e g) (h2 : DGs X es gs) (hs : (assignEach (e :: es) X.env).map (·.2) = assign e X.env :: (assignEach es X.env).map (·.2) := by rfl) : DGs X (e :: es) (gsCons g gs) :=
  PGs.imp (pgs_cons h1 h2 hs) fun vs σ H Q ⟨F, own, δ, ds, P, E, r, g, q⟩ => by
    obtain ⟨d, dr, rfl, g⟩ := g
    cases r with
    | cons r rr => exact ⟨_, _, rfl, F, own, δ, d, _, E, r, g, fun σ' δ' E' g' => ⟨F, own, δ', dr, P, E', rr, g', q⟩⟩
def gT (n : Nat) (gs : GMs) : GM := fun d δ P => ∃ ds, d = .tup ds ∧ ds.length = n ∧ gs ds δ P
theorem dg_tup {j : Nat} {gs : GMs} {n : Nat} (hc : X.calm = true) (h : DGs X es gs) (hn : (assignEach es X.env).length = n := by rfl) (hst : (assignEach es X.env).findIdx? (·.1) = none := by rfl) : DG X (.Tuple es j pos) (gT n gs) :=
  PG.imp (pg_tup hc h hn hst) fun v σ H Q ⟨F, own, δ, d, P, E, r, g, q⟩ => by
    obtain ⟨ds, rfl, hl, g⟩ := g
    cases r with
    | tup h1 h2 h3 => exact ⟨_, _, rfl, sameT sub_le h1, by rw [h3.length]; exact hl, F, own, δ, ds, P, E, h3, g, q⟩
/-! ### stores -/
def sAsg (ma : TM) (g : GM) : SM := fun δ k => ma δ (fun d => g d δ k.nx) (k.er δ)
theorem ds_asg {tg : Expr} {g : GM} (he : DE X W e false ma) (hg : DG X tg g) (hs : swapsWithSole [tg] e pos.line X.env = pure false := by rfl) (hw : swappedStores [tg] e X.env = pure none := by rfl)
    (h1 : (assignEach [tg] X.env).map (·.2) = [assign tg X.env] := by rfl) : DS X W (.Assign [tg] e pos) (sAsg ma g) :=
  PS.imp (ps_asg he hg hs hw h1) fun D σ H ⟨F, own, δ, k, E, h, L⟩ => ⟨F, own, δ, _, _, L.at E, h, fun d v H' p s r =>
    ⟨F, own, δ, d, _, E.grow s, r.clean, p, fun σ' δ' E' q => L.nx σ' H' own δ' E' q⟩⟩
def sSet (i : Nat) (ma : TM) : SM := fun δ k => ma δ (fun d => k.nx (δ.set i (.v d))) (k.er δ)
theorem ds_set (i : Nat) {x : Str} {pos' : Pos} (hN : X.N.Nodup) (he : DE X W e false ma) (hi : X.N[i]? = some x := by rfl) (hx : Loc X.env.scope x := by first | exact .inl rfl | exact .inr rfl) (hs : swapsWith e (some (.Name x pos')) pos.line X.env = pure false := by rfl)
    (hf : X.fn x = true ∨ X.env.scope.names.lookup x = some .local := by first | exact .inl rfl | exact .inr rfl) : DS X W (.Assign [.Name x pos'] e pos) (sSet i ma) :=
  PS.imp (ps_set hN hi hx he hs hf) fun D σ H ⟨F, own, δ, k, E, h, L⟩ => ⟨F, own, δ, _, _, L.at E, h, fun d v H' p s r => L.nx _ H' own _ ((E.grow s).set i r.clean) p⟩
def sSetM (i : Nat) (ma : TM) : SM := fun δ k => ma δ (fun d => k.nx (δ.set i (.m d))) (k.er δ)
theorem ds_setm (i : Nat) {x : Str} {pos' : Pos} (hN : X.N.Nodup) (he : DF X W e ma) (hi : X.N[i]? = some x := by rfl) (hx : Loc X.env.scope x := by first | exact .inl rfl | exact .inr rfl) (hs : swapsWith e (some (.Name x pos')) pos.line X.env = pure false := by rfl)
    (hf : X.fn x = true ∨ X.env.scope.names.lookup x = some .local := by first | exact .inl rfl | exact .inr rfl) : DS X W (.Assign [.Name x pos'] e pos) (sSetM i ma) :=
  PS.imp (ps_set hN hi hx he hs hf) fun D σ H ⟨F, own, δ, k, E, h, L⟩ => ⟨F, own, δ, _, _, L.at E, h, fun d p H' pd hp s r => L.nx _ H' (p :: own) _ (E.setm i hp s r) pd⟩
def sPar (i j : Nat) (la : LM) : SM := fun δ k => la δ (fun ds => ∃ d e, ds = [d, e] ∧ k.nx ((δ.set i (.v d)).set j (.v e))) (k.er δ)
theorem ds_par (i j : Nat) {x y : Str} {px py pt : Pos} {kt k2 : Nat} {pt2 : Pos} (hc : X.calm = true) (hN : X.N.Nodup) (ha : DA X W [a, b] false la) (hi : X.N[i]? = some x := by rfl) (hj : X.N[j]? = some y := by rfl) (hij : i ≠ j := by decide)
    (hx : X.env.scope.names.lookup x = some .local := by rfl) (hy : X.env.scope.names.lookup y = some .local := by rfl)
    (hw : swappedStores [.Tuple [.Name x px, .Name y py] kt pt] (.Tuple [a, b] k2 pt2) X.env = pure (some [x, y]) := by rfl)
    (hs : swapsWithSole [.Tuple [.Name x px, .Name y py] kt pt] (.Tuple [a, b] k2 pt2) pos.line X.env = pure false := by rfl) : DS X W (.Assign [.Tuple [.Name x px, .Name y py] kt pt] (.Tuple [a, b] k2 pt2) pos) (sPar i j la) :=
  PS.imp (ps_par hc hN hi hj hij hx hy ha hw hs) fun D σ H ⟨F, own, δ, k, E, h, L⟩ => ⟨F, own, δ, _, _, L.at E, h, fun ds vs H' p s r => by
    obtain ⟨d, e, rfl, p⟩ := p
    have r := r.clean
    cases r with
    | cons r1 r => cases r with
      | cons r2 r => cases r; exact ⟨_, _, rfl, L.nx _ H' own _ (((E.grow s).set i r1).set j r2) p⟩⟩
end
end DL
set_option Elab.async false
set_option linter.all false
set_option maxRecDepth 100000
set_option maxHeartbeats 4000000
/-! DL4: append, loops, comprehensions. -/
namespace DL
open PySem PySem.Spec PyProof.Rows L2
variable [TabsC]
section
variable {X : Cx} {W : WX} {a b c e o : Expr} {es rest : List Expr} {st : Stmt} {sts sts' : List Stmt} {ba bb bc : Bool} {ma mb mc : TM} {na nb : BM} {la : LM} {pos : Pos} {m m' : SM}
/-! ### a list of one's own grows -/
def sApp (i : Nat) (ma : TM) : SM := fun δ k => ∃ ds, δ[i]? = some (.m (.list ds)) ∧ ma δ (fun d => ds.length < sizeLine ∧ k.nx (δ.set i (.m (.list (ds ++ [d]))))) (k.er δ)
theorem mut_list {K : PySem.W.Frag} {F : Fm} {own : List Addr} {σ : L2.St} {δ : List DV} {H : Hp} {i : Nat} {ds : List D} (E : EnvD K F own σ δ H) (h : δ[i]? = some (.m (.list ds))) :
    ∃ a xs, σ[i]? = some (some (.ref a)) ∧ a ∈ own ∧ H a = some (.lst xs) ∧ xs.length ≤ sizeLine ∧ Reps K (sub H (F.ls0 ++ own)) xs ds := by
  obtain ⟨s, e1, a, rfl, ha, r⟩ := E.slot i _ h
  obtain ⟨a', xs, e2, h1, h2, h3⟩ := r.list
  cases e2
  exact ⟨a, xs, e1, ha, h1, h2, h3⟩
theorem ds_app (i : Nat) {x : Str} {p apos cpos : Pos} (ho : PE X (.Name x p) (tVar i)) (he : DE X W e false ma)
    (hbase : attributeBase (.Name x p) "append" X.env (eval (.Name x p) X.env) = eval (.Name x p) X.env := by rfl)
    (hfew : ((backTo cpos (starEach [e] X.env)).all (fun x => !x.1) && (backToKw cpos (keywordEach [] X.env)).all (fun x => x.1.isSome) && decide (([e] : List Expr).length + ([] : List Keyword).length + (if ([] : List Keyword).isEmpty then 0 else 1) < 30)) = true := by rfl)
    (hline : (apos.endLine == cpos.line) = true := by rfl) (hs : starEach [e] X.env = (false, eval e X.env) :: starEach [] X.env := by rfl)
    (hplain : (backTo cpos (starEach [] X.env)).any (·.1) = false := by rfl) (hsw : swapsWith (.Call (.Attribute (.Name x p) "append" apos) [e] [] cpos) none pos.line X.env = pure false := by rfl) :
    DS X W (.Expr (.Call (.Attribute (.Name x p) "append" apos) [e] [] cpos) pos) (sApp i ma) :=
  PS.imp (ps_expr (pe_bm PySem.F.plainAttrs_list PySem.F.slot_list_append PySem.F.type_list_append mt_append ho (pa_cons he pa_nil hs) hbase hfew hline hs hplain) hsw) fun D σ H ⟨F, own, δ, k, E, h, L⟩ => by
    obtain ⟨ds, hd, h⟩ := h
    obtain ⟨a, xs, e1, ha, h1, h2, h3⟩ := mut_list E hd
    refine ⟨_, e1, .inl ⟨rfl, _, .of h1⟩, F, own, δ, _, _, L.at E, h, fun d v H' p s r => ?_⟩
    obtain ⟨hl, p⟩ := p
    have h1' := s _ _ h1
    have hl' : xs.length < sizeLine := by rw [h3.length]; exact hl
    have es : sub (upd H' a (.lst (xs ++ [v]))) (F.ls0 ++ own) = sub H' (F.ls0 ++ own) := sub_upd (List.mem_append_right _ ha)
    refine ⟨a, xs, v, rfl, rfl, h1', hl', L.nx _ _ own _ ((E.grow s).put hd e1 h1' (.ml (E.sep a ha) upd_same ?_ ?_)) p⟩
    · rw [List.length_append, List.length_singleton]; omega
    · rw [es]
      exact (h3.mono (sub_same s)).append (.cons r.clean .nil)
def sExt (i : Nat) (ma : TM) : SM := fun δ k => ∃ ds, δ[i]? = some (.m (.list ds)) ∧ ma δ (fun d => ∃ es, d = .list es ∧ ds.length + es.length ≤ sizeLine ∧ k.nx (δ.set i (.m (.list (ds ++ es))))) (k.er δ)
theorem ds_ext (i : Nat) {x : Str} {p apos cpos : Pos} (ho : PE X (.Name x p) (tVar i)) (he : DE X W e ba ma)
    (hbase : attributeBase (.Name x p) "extend" X.env (eval (.Name x p) X.env) = eval (.Name x p) X.env := by rfl)
    (hfew : ((backTo cpos (starEach [e] X.env)).all (fun x => !x.1) && (backToKw cpos (keywordEach [] X.env)).all (fun x => x.1.isSome) && decide (([e] : List Expr).length + ([] : List Keyword).length + (if ([] : List Keyword).isEmpty then 0 else 1) < 30)) = true := by rfl)
    (hline : (apos.endLine == cpos.line) = true := by rfl) (hs : starEach [e] X.env = (false, eval e X.env) :: starEach [] X.env := by rfl)
    (hplain : (backTo cpos (starEach [] X.env)).any (·.1) = false := by rfl) (hsw : swapsWith (.Call (.Attribute (.Name x p) "extend" apos) [e] [] cpos) none pos.line X.env = pure false := by rfl) :
    DS X W (.Expr (.Call (.Attribute (.Name x p) "extend" apos) [e] [] cpos) pos) (sExt i ma) :=
  PS.imp (ps_expr (pe_bm PySem.F.plainAttrs_list PySem.F.slot_list_extend PySem.F.type_list_extend mt_extend ho (pa_cons he pa_nil hs) hbase hfew hline hs hplain) hsw) fun D σ H ⟨F, own, δ, k, E, h, L⟩ => by
    obtain ⟨ds, hd, h⟩ := h
    obtain ⟨a, xs, e1, ha, h1, h2, h3⟩ := mut_list E hd
    refine ⟨_, e1, .inl ⟨rfl, _, .of h1⟩, F, own, δ, _, _, L.at E, h, fun d v H' p s r => ?_⟩
    obtain ⟨es, rfl, hl, p⟩ := p
    have h1' := s _ _ h1
    obtain ⟨b, ys, rfl, q1, q2, q3⟩ := r.list
    have hl' : xs.length + ys.length ≤ sizeLine := by rw [h3.length, q3.length]; exact hl
    have es : sub (upd H' a (.lst (xs ++ ys))) (F.ls0 ++ own) = sub H' (F.ls0 ++ own) := sub_upd (List.mem_append_right _ ha)
    refine ⟨a, b, xs, ys, rfl, rfl, h1', q1, hl', L.nx _ _ own _ ((E.grow s).put hd e1 h1' (.ml (E.sep a ha) upd_same ?_ ?_)) p⟩
    · rw [List.length_append]; exact hl'
    · rw [es]
      exact (h3.mono (sub_same s)).append q3
/-! ### what is walked -/
structure ItOk (K : PySem.W.Frag) (J : It) (Hg Hb : Hp) (ds : List D) : Prop where
  sz : ds.length ≤ sizeLine
  go : ∀ (i : Nat) H, Grow Hg H → i < ds.length → J.go i H
  stop : ∀ (i : Nat) H, Grow Hg H → i = ds.length → J.stop i H
  yld : ∀ (i : Nat) H x H' ls, Grow Hg H → Grow Hb (sub H ls) → (∀ l, l ∈ ls → ∃ o, H l = some o ∧ Plain o) → i < ds.length → J.yld i H x H' → ∃ d, ds[i]? = some d ∧ Same H H' ∧ Rep K (sub H' ls) x d
theorem ItOk.mono {K : PySem.W.Frag} {J : It} {Hg Hg' Hb : Hp} {ds : List D} (h : ItOk K J Hg Hb ds) (e : Grow Hg Hg') : ItOk K J Hg' Hb ds :=
  ⟨h.sz, fun i H s => h.go i H (e.trans s), fun i H s => h.stop i H (e.trans s), fun i H x H' ls s => h.yld i H x H' ls (e.trans s)⟩
def flo (b : Bool) (H : Hp) (ls : List Addr) : Hp := if b = true then H else sub H ls
def ti (K : PySem.W.Frag) (W : WX) (b : Bool) (mi : LM) : TI := fun σ H R => ∃ (F : Fm) (own : List Addr) (δ : List DV) (P : List D → Prop) (EK : Er → Prop), At K W σ H F own δ EK ∧ mi δ P EK ∧
  ∀ ds J H1, P ds → Same H H1 → ItOk K J (flo b H1 (F.ls0 ++ own)) (sub H1 (F.ls0 ++ own)) ds → R J H1
def DI (X : Cx) (W : WX) (tg it : Expr) (b : Bool) (mi : LM) : Prop := PI X tg it (ti X.K W b mi)
theorem PI.imp {X : Cx} {tg e : Expr} {t t' : TI} (h : PI X tg e t) (k : ∀ σ H Q, t' σ H Q → t σ H Q) : PI X tg e t' := ⟨fun pins s σ H Q I q => h.run pins s σ H Q I (k _ _ _ q)⟩
theorem itok_list {K : PySem.W.Frag} {Hg Hb : Hp} {a : Addr} {xs : List V} {ds : List D} (h : Hg a = some (.lst xs)) (hz : xs.length ≤ sizeLine) (r : Reps K Hb xs ds) : ItOk K (Itl K a) Hg Hb ds where
  sz := by rw [← r.length]; exact hz
  go := fun i H s hi => ⟨xs, xs[i]'(by rw [r.length]; exact hi), .of (s _ _ h), List.getElem?_eq_getElem _⟩
  stop := fun i H s hi => ⟨xs, .of (s _ _ h), by rw [r.length]; omega⟩
  yld := fun i H x H' ls s sb ht hi ⟨e, y⟩ => by
    subst e
    obtain ⟨d, e, r'⟩ := r.get (y xs (.of (s _ _ h)))
    exact ⟨d, e, Same.refl _, r'.mono sb⟩
theorem itok_tup {K : PySem.W.Frag} {Hg Hb : Hp} {a : Addr} {xs : List V} {ds : List D} (h : SqT K Hg a xs) (hz : xs.length ≤ sizeLine) (r : Reps K Hb xs ds) : ItOk K (Itt K a) Hg Hb ds where
  sz := by rw [← r.length]; exact hz
  go := fun i H s hi => ⟨xs, xs[i]'(by rw [r.length]; exact hi), sameT s h, List.getElem?_eq_getElem _⟩
  stop := fun i H s hi => ⟨xs, sameT s h, by rw [r.length]; omega⟩
  yld := fun i H x H' ls s sb ht hi ⟨e, y⟩ => by
    subst e
    obtain ⟨d, e, r'⟩ := r.get (y xs (sameT s h))
    exact ⟨d, e, Same.refl _, r'.mono sb⟩
def mSeq (ma : TM) : LM := fun δ P E => ma δ (fun d => (∃ ds, d = .list ds ∧ P ds) ∨ (∃ ds, d = .tup ds ∧ P ds)) E
theorem flo_list {H : Hp} {b : Bool} {K : PySem.W.Frag} {fo ls : List Addr} {v : V} {ds : List D} (r : RV K fo ls H b v (.list ds)) : ∃ a xs, v = .ref a ∧ flo b H ls a = some (.lst xs) ∧ xs.length ≤ sizeLine ∧ Reps K (sub H ls) xs ds := by
  cases r with
  | cl r =>
    cases r with
    | list h l r =>
      refine ⟨_, _, rfl, ?_, l, r⟩
      unfold flo
      split
      · exact sub_le _ _ h
      · exact h
  | ml n h l r => exact ⟨_, _, rfl, h, l, r⟩
theorem flo_tup {H : Hp} {b : Bool} {K : PySem.W.Frag} {fo ls : List Addr} {v : V} {ds : List D} (r : RV K fo ls H b v (.tup ds)) : ∃ a xs, v = .ref a ∧ SqT K (flo b H ls) a xs ∧ xs.length ≤ sizeLine ∧ Reps K (sub H ls) xs ds := by
  cases r with
  | cl r =>
    cases r with
    | tup h l r =>
      refine ⟨_, _, rfl, ?_, l, r⟩
      unfold flo
      split
      · exact sameT sub_le h
      · exact h
theorem flo_le {H : Hp} {b : Bool} {ls : List Addr} : Grow (flo b H ls) H := by
  unfold flo
  split
  · exact Grow.refl _
  · exact sub_le
theorem di_seq {tg : Expr} (he : DE X W e ba ma) : DI X W tg e ba (mSeq ma) := by
  refine ⟨fun pins s σ H R I ⟨F, own, δ, P, EK, A, m, q⟩ => ?_⟩
  have hr := he.run pins s σ H (fun v H1 => Same H H1 ∧ ((∃ a xs ds, v = .ref a ∧ flo ba H1 (F.ls0 ++ own) a = some (.lst xs) ∧ xs.length ≤ sizeLine ∧ Reps X.K (sub H1 (F.ls0 ++ own)) xs ds ∧ P ds) ∨
    (∃ a xs ds, v = .ref a ∧ SqT X.K (flo ba H1 (F.ls0 ++ own)) a xs ∧ xs.length ≤ sizeLine ∧ Reps X.K (sub H1 (F.ls0 ++ own)) xs ds ∧ P ds))) I ⟨F, own, δ, _, EK, A, m, fun d v H1 p s1 r => ⟨s1, by
      rcases p with ⟨ds, rfl, p⟩ | ⟨ds, rfl, p⟩
      · obtain ⟨a, xs, rfl, h1, h2, h3⟩ := flo_list r
        exact .inl ⟨a, xs, ds, rfl, h1, h2, h3, p⟩
      · obtain ⟨a, xs, rfl, h1, h2, h3⟩ := flo_tup r
        exact .inr ⟨a, xs, ds, rfl, h1, h2, h3, p⟩⟩⟩
  refine thn hr fun v s1 ⟨x, H1, I1, r1, s01, q1⟩ => ?_
  have fresh : ∀ bb, bb ∈ [s1.heap.objs.size] → FpOk X pins H1 bb := fun bb hb => by
    obtain rfl := List.mem_singleton.mp hb
    exact I1.fpOk (Nat.le_refl _) (I1.hok.fresh (Nat.le_refl _))
  have pushed : ∀ ob : Obj, Inv X pins σ H1 { s1 with heap := s1.heap.push ob } := fun ob => I1.kept (t' := s1.toks) fun b o q => Heap.get?_push_of_some _ q
  rcases q1 with ⟨a, xs, ds, rfl, h1, h2, h3, p⟩ | ⟨a, xs, ds, rfl, h1, h2, h3, p⟩
  · cases r1
    obtain ⟨its, rv, pl, hz⟩ := I1.list (SqL.of (flo_le _ _ h1))
    refine wpAny_pyIter_list pl.isList ⟨_, [s1.heap.objs.size], _, _, H1, rfl, pushed _, turn_list a _, ⟨_, Heap.get?_push_size _ rfl, rfl, rfl⟩, fresh, q ds _ H1 p s01 (itok_list h1 h2 h3)⟩
  · cases r1
    obtain ⟨its, rv, pl, hz⟩ := I1.tuple (sameT flo_le h1)
    refine wpAny_pyIter_tuple (show s1.heap.IsTuple a its.toArray from pl) ⟨_, [s1.heap.objs.size], _, _, H1, rfl, pushed _, turn_tuple a _, ⟨_, Heap.get?_push_size _ rfl, rfl, rfl⟩, fresh, q ds _ H1 p s01 (itok_tup h1 h2 h3)⟩
/-- ranges -/
def rangeD (lo : Int) (n : Nat) : List D := (List.range n).map fun i => D.int (lo + (i : Nat))
theorem rangeD_length (lo : Int) (n : Nat) : (rangeD lo n).length = n := by unfold rangeD; rw [List.length_map, List.length_range]
theorem itok_range {K : PySem.W.Frag} {Hg Hb : Hp} {lo : Int} {n : Nat} (hz : n ≤ sizeLine) : ItOk K (Itr lo n) Hg Hb (rangeD lo n) where
  sz := by rw [rangeD_length]; exact hz
  go := fun i H s hi => by rw [rangeD_length] at hi; exact hi
  stop := fun i H s hi => by rw [rangeD_length] at hi; show n ≤ i; omega
  yld := fun i H x H' ls s sb ht hi ⟨e, y⟩ => by
    subst e y
    rw [rangeD_length] at hi
    refine ⟨.int (lo + i), ?_, Same.refl _, .int _⟩
    unfold rangeD
    rw [List.getElem?_map, List.getElem?_range hi]
    rfl
theorem RVs.one {K : PySem.W.Frag} {fo ls : List Addr} {H : Hp} {b : Bool} {vs : List V} {d : D} (r : RVs K fo ls H b vs [d]) : ∃ v, vs = [v] ∧ RV K fo ls H b v d := by
  cases r with
  | cons r t => cases t; exact ⟨_, rfl, r⟩
theorem RVs.two {K : PySem.W.Frag} {fo ls : List Addr} {H : Hp} {b : Bool} {vs : List V} {d d' : D} (r : RVs K fo ls H b vs [d, d']) : ∃ v v', vs = [v, v'] ∧ RV K fo ls H b v d ∧ RV K fo ls H b v' d' := by
  cases r with
  | cons r t => cases t with
    | cons r' t => cases t; exact ⟨_, _, rfl, r, r'⟩
theorem line62 {j : Int} {lo : Int} (h : (j - lo).toNat ≤ sizeLine) (h0 : -(2 ^ 61) ≤ lo) (h1 : lo < 2 ^ 61) (h2 : -(2 ^ 61) ≤ j) : -(2 ^ 62) ≤ lo ∧ lo < 2 ^ 62 ∧ -(2 ^ 62) ≤ j ∧ j < 2 ^ 62 := by
  rw [sizeLine_eq] at h
  omega
def mRange1 (la : LM) : LM := fun δ P E => la δ (fun ds => ∃ j : Int, ds = [.int j] ∧ -(2 ^ 61) ≤ j ∧ j.toNat ≤ sizeLine ∧ P (rangeD 0 j.toNat)) E
def mRange2 (la : LM) : LM := fun δ P E => la δ (fun ds => ∃ i j : Int, ds = [.int i, .int j] ∧ -(2 ^ 61) ≤ i ∧ i < 2 ^ 61 ∧ -(2 ^ 61) ≤ j ∧ (j - i).toNat ≤ sizeLine ∧ P (rangeD i (j - i).toNat)) E
theorem di_range1 {tg : Expr} {p : Pos} (hg : Gl X "range") (hm : X.mg "range" = none) (ha : DA X W [a] true la) (hs : starEach [a] X.env = [(false, eval a X.env)] := by rfl) : DI X W tg (.Call (.Name "range" p) [a] [] pos) ba (mRange1 la) :=
  PI.imp (pi_range1 hg hm ha hs) fun σ H R ⟨F, own, δ, P, EK, A, m, q⟩ => ⟨F, own, δ, _, EK, A, m, fun ds vs H1 p s r => by
    obtain ⟨j, rfl, h0, h1, p⟩ := p
    obtain ⟨v, rfl, rq⟩ := r.one
    have b := line62 (j := j) (lo := 0) (by simpa using h1) (by decide) (by decide) h0
    exact ⟨j, by rw [rq.isInt], b.2.2.1, b.2.2.2, q _ _ H1 p s (itok_range h1)⟩⟩
theorem di_range2 {tg : Expr} {p : Pos} (hg : Gl X "range") (hm : X.mg "range" = none) (ha : DA X W [a, b] true la) (hs : starEach [a, b] X.env = [(false, eval a X.env), (false, eval b X.env)] := by rfl) (hs2 : starEach [b] X.env = [(false, eval b X.env)] := by rfl) : DI X W tg (.Call (.Name "range" p) [a, b] [] pos) ba (mRange2 la) :=
  PI.imp (pi_range2 hg hm ha hs hs2) fun σ H R ⟨F, own, δ, P, EK, A, m, q⟩ => ⟨F, own, δ, _, EK, A, m, fun ds vs H1 p s r => by
    obtain ⟨i, j, rfl, h0, h1, h2, h3, p⟩ := p
    obtain ⟨v, v', rfl, rq, rq'⟩ := r.two
    have b := line62 (j := j) (lo := i) h3 h0 h1 h2
    exact ⟨i, j, by rw [rq.isInt, rq'.isInt], b, q _ _ H1 p s (itok_range h3)⟩⟩
/-- a text, sign by sign -/
def signsD (x : Str) : List D := x.cps.toList.map fun c => D.str ⟨#[c]⟩
def mSigns (ma : TM) : LM := fun δ P E => ma δ (fun d => ∃ x, d = .str x ∧ x.length ≤ sizeLine ∧ P (signsD x)) E
/-! ### loops -/
def forL (g : GM) (mb : SM) : List D → SM
  | [] => fun δ k => k.nx δ
  | d :: ds => fun δ k => g d δ fun δ' => mb δ' { k with nx := fun δ'' => forL g mb ds δ'' k, ct := fun δ'' => forL g mb ds δ'' k, bk := k.nx }
def sFor (mi : LM) (g : GM) (mb : SM) : SM := fun δ k => mi δ (fun ds => forL g mb ds δ k) (k.er δ)
theorem drop_get {α : Type} {l : List α} {i : Nat} {x : α} (h : l[i]? = some x) : l.drop i = x :: l.drop (i + 1) := by
  obtain ⟨hi, e⟩ := List.getElem?_eq_some_iff.mp h
  rw [← e]
  exact List.drop_eq_getElem_cons hi
theorem ds_for {tg it : Expr} {mi : LM} {g : GM} (hp : PassesOwn (model X.prog X.w) X.A X.env X.xe) (hc : X.calm = true) (hi : DI X W tg it false mi) (hg : DG X tg g) (hb : DSs X W sts m) (hs : ∀ x, foldedSetIterable it X.env x = pure x := by intro _; rfl) :
    DS X W (.For tg it sts [] pos) (sFor mi g m) :=
  PS.imp (ps_for hp hc hi hg hb hs) fun D σ H ⟨F, own, δ, k, E, h, L⟩ => by
    refine ⟨F, own, δ, _, _, L.at E, h, fun ds J H1 hds s1 ok => ?_⟩
    have E1 := E.grow s1
    refine ⟨fun i n σ H => n = ds.length - i ∧ i ≤ ds.length ∧ ∃ own' δ', EnvD X.K { F with Hi := sub H1 (F.ls0 ++ own) } own' σ δ' H ∧ forL g m (ds.drop i) δ' k, ⟨_, rfl, Nat.zero_le _, own, δ, E1.floor, hds⟩, ?_⟩
    rintro i n σ2 H2 ⟨rfl, hi2, own2, δ2, E2, q2⟩
    have sg : Grow (sub H1 (F.ls0 ++ own)) H2 := E2.imm.trans sub_le
    by_cases hlt : i < ds.length
    · refine .inr ⟨ok.go i H2 sg hlt, fun σ H => ∃ own' δ', EnvD X.K { F with Hi := sub H1 (F.ls0 ++ own) } own' σ δ' H ∧ forL g m (ds.drop (i + 1)) δ' k, fun σ' H' ⟨own', δ', E', q'⟩ => ⟨_, (by omega), rfl, hlt, own', δ', E', q'⟩, fun x H3 y => ?_⟩
      obtain ⟨d, ed, s3, r3⟩ := ok.yld i H2 x H3 (F.ls0 ++ own2) sg E2.imm E2.trk hlt y
      rw [drop_get ed] at q2
      refine ⟨_, own2, δ2, d, _, E2.grow s3, r3, q2, fun σ4 δ4 E4 q4 => ⟨_, own2, δ4, _, E4, q4, ?_⟩⟩
      exact ⟨fun σ' H' own' δ' E' q' => ⟨own', δ', E', q'⟩, fun v σ' H' own' δ' d' E' r' q' => L.rt v σ' H' own' δ' d' (E'.unfloor E1.imm) r' q', fun σ' H' own' δ' E' q' => L.nx σ' H' own' δ' (E'.unfloor E1.imm) q', fun σ' H' own' δ' E' q' => ⟨own', δ', E', q'⟩, fun er cls dd σ' H' own' δ' E' q' r' => L.er er cls dd σ' H' own' δ' (E'.unfloor E1.imm) q' r'⟩
    · have e : i = ds.length := by omega
      subst e
      rw [List.drop_length] at q2
      exact .inl ⟨ok.stop _ H2 sg rfl, L.nx _ _ own2 δ2 (E2.unfloor E1.imm) q2⟩
/-! ### comprehensions -/
def wipeD (δ : List DV) : List Nat → List DV
  | [] => δ
  | v :: vs => (wipeD δ vs).set v .u
theorem EnvD.wipe {K : PySem.W.Frag} {F : Fm} {own : List Addr} {σ : L2.St} {δ : List DV} {H : Hp} (E : EnvD K F own σ δ H) : ∀ vs : List Nat, EnvD K F own (L2.wipe σ vs) (wipeD δ vs) H
  | [] => E
  | v :: vs => (EnvD.wipe E vs).unset v none
theorem wipe_at {σ : L2.St} {i : Nat} (hi : i < σ.length) : ∀ {vs : List Nat}, i ∈ vs → (L2.wipe σ vs)[i]? = some none
  | v :: vs, h => by
    unfold L2.wipe
    by_cases e : v = i
    · subst e
      exact List.getElem?_set_self (by rw [wipe_length]; exact hi)
    · rw [List.getElem?_set_ne e]
      rcases List.mem_cons.mp h with z | z
      · exact absurd z.symm e
      · exact wipe_at hi z
theorem wipe_off {σ : L2.St} {i : Nat} : ∀ {vs : List Nat}, i ∉ vs → (L2.wipe σ vs)[i]? = σ[i]?
  | [], _ => rfl
  | v :: vs, h => by
    unfold L2.wipe
    rw [List.getElem?_set_ne fun e => h (by rw [e]; exact List.mem_cons_self)]
    exact wipe_off fun z => h (List.mem_cons_of_mem _ z)
theorem wipe_set {σ : L2.St} {i : Nat} {s : Option V} {vs : List Nat} (h : i ∈ vs) : L2.wipe (σ.set i s) vs = L2.wipe σ vs := by
  apply List.ext_getElem?
  intro j
  by_cases hj : j ∈ vs
  · by_cases hl : j < σ.length
    · rw [wipe_at hl hj, wipe_at (by rw [List.length_set]; exact hl) hj]
    · rw [List.getElem?_eq_none (by rw [wipe_length, List.length_set]; omega), List.getElem?_eq_none (by rw [wipe_length]; omega)]
  · rw [wipe_off hj, wipe_off hj, List.getElem?_set_ne fun e => hj (by rw [← e]; exact h)]
theorem wipe_wipe {σ : L2.St} {vs : List Nat} : L2.wipe (L2.wipe σ vs) vs = L2.wipe σ vs := by
  apply List.ext_getElem?
  intro j
  by_cases hj : j ∈ vs
  · by_cases hl : j < σ.length
    · rw [wipe_at (by rw [wipe_length]; exact hl) hj, wipe_at hl hj]
    · rw [List.getElem?_eq_none (by rw [wipe_length, wipe_length]; omega), List.getElem?_eq_none (by rw [wipe_length]; omega)]
  · rw [wipe_off hj]
/-- targets of a block: they set its own slots alone -/
def tgw (K : PySem.W.Frag) (vs : List Nat) (g : GM) : TG := fun v σ H Q => ∃ (F : Fm) (own : List Addr) (δ : List DV) (d : D) (P : List DV → Prop), EnvD K F own σ δ H ∧ Rep K (sub H (F.ls0 ++ own)) v d ∧ g d δ P ∧ ∀ σ' δ', EnvD K F own σ' δ' H → L2.wipe σ' vs = L2.wipe σ vs → P δ' → Q σ' H
def tgws (K : PySem.W.Frag) (vs : List Nat) (g : GMs) : TGs := fun us σ H Q => ∃ (F : Fm) (own : List Addr) (δ : List DV) (ds : List D) (P : List DV → Prop), EnvD K F own σ δ H ∧ Reps K (sub H (F.ls0 ++ own)) us ds ∧ g ds δ P ∧ ∀ σ' δ', EnvD K F own σ' δ' H → L2.wipe σ' vs = L2.wipe σ vs → P δ' → Q σ' H
def DGw (X : Cx) (vs : List Nat) (e : Expr) (g : GM) : Prop := PG X e (tgw X.K vs g)
def DGws (X : Cx) (vs : List Nat) (es : List Expr) (g : GMs) : Prop := PGs X es (tgws X.K vs g)
variable {vs : List Nat}
theorem dgw_name (i : Nat) {x : Str} (h : PG X (.Name x pos) (gName i)) (hv : i ∈ vs := by decide) : DGw X vs (.Name x pos) (gN i) := PG.imp h fun v σ H Q ⟨F, own, δ, d, P, E, r, g, q⟩ => q _ _ (E.set i r) (wipe_set hv) g
theorem dgws_nil : DGws X vs [] gsNil := PGs.imp pgs_nil fun us σ H Q ⟨F, own, δ, ds, P, E, r, g, q⟩ => by
  obtain ⟨rfl, g⟩ := g
  cases r
  exact ⟨rfl, q _ _ E rfl g⟩
theorem dgws_cons {g : GM} {gs : GMs} (h1 : DGw X vs e g) (h2 : DGws X vs es gs) (hs : (assignEach (e :: es) X.env).map (·.2) = assign e X.env :: (assignEach es X.env).map (·.2) := by rfl) : DGws X vs (e :: es) (gsCons g gs) :=
  PGs.imp (pgs_cons h1 h2 hs) fun us σ H Q ⟨F, own, δ, ds, P, E, r, g, q⟩ => by
    obtain ⟨d, dr, rfl, g⟩ := g
    cases r with
    | cons r rr => exact ⟨_, _, rfl, F, own, δ, d, _, E, r, g, fun σ' δ' E' w' g' => ⟨F, own, δ', dr, P, E', rr, g', fun σ2 δ2 E2 w2 => q σ2 δ2 E2 (w2.trans w')⟩⟩
theorem dgw_tup {j : Nat} {gs : GMs} {n : Nat} (hc : X.calm = true) (h : DGws X vs es gs) (hn : (assignEach es X.env).length = n := by rfl) (hst : (assignEach es X.env).findIdx? (·.1) = none := by rfl) : DGw X vs (.Tuple es j pos) (gT n gs) :=
  PG.imp (pg_tup hc h hn hst) fun v σ H Q ⟨F, own, δ, d, P, E, r, g, q⟩ => by
    obtain ⟨ds, rfl, hl, g⟩ := g
    cases r with
    | tup h1 h2 h3 => exact ⟨_, _, rfl, sameT sub_le h1, by rw [h3.length]; exact hl, F, own, δ, ds, P, E, h3, g, q⟩
def DTs (X : Cx) (W : WX) (ifs : List Expr) (m : BM) : Prop := PTs X ifs (tb X.K W m)
def mYes : BM := fun _ Q _ => Q true
theorem PTs.imp {X : Cx} {e : List Expr} {t t' : TT} (h : PTs X e t) (k : ∀ σ H Q, t' σ H Q → t σ H Q) : PTs X e t' := ⟨fun pins s σ H Q I q => h.run pins s σ H Q I (k _ _ _ q)⟩
theorem dts_nil : DTs X W [] mYes := PTs.imp pts_nil fun σ H Q ⟨F, own, δ, P, EK, A, m, q⟩ => q true H m (Same.refl H)
theorem dts_one (h : DT X W c na) : DTs X W [c] na := pts_one h
def compL (g : GM) (mt : BM) (me : TM) (δ0 : List DV) : List D → List D → (D → Prop) → Prop
  | [], acc, Q => Q (.list acc)
  | d :: ds, acc, Q => g d δ0 fun δ' => mt δ' (fun b => if b = true then me δ' (fun y => compL g mt me δ0 ds (acc ++ [y]) Q) NoE else compL g mt me δ0 ds acc Q) NoE
def mComp (vs : List Nat) (mi : LM) (g : GM) (mt : BM) (me : TM) : TM := fun δ Q E => mi δ (fun ds => compL g mt me (wipeD δ vs) ds [] Q) E
theorem noPass {K : PySem.W.Frag} {ls : List Addr} {σ : L2.St} {H : Hp} {W : WX} : Pass K W ls σ H NoE := fun _ _ _ _ h => h.elim
/-- a cell of ours that no name holds is written -/
theorem EnvD.poke {K : PySem.W.Frag} {F : Fm} {own : List Addr} {σ : L2.St} {δ : List DV} {H : Hp} (E : EnvD K F own σ δ H) {a : Addr} {o o' : HO} (ha : a ∈ own) (ho : H a = some o') (hn : ∀ (j : Nat) (dj : D), δ[j]? = some (.m dj) → σ[j]? ≠ some (some (.ref a))) (hp : Plain o' := by exact plain_of) (hp2 : Plain o := by exact plain_of) : EnvD K F own σ δ (upd H a o) := by
  have hin : a ∈ F.ls0 ++ own := List.mem_append_right _ ha
  have s : Same (sub H [a]) (upd H a o) := same_put
  have g : Grow (sub H (F.ls0 ++ own)) (sub (upd H a o) (F.ls0 ++ own)) := s.butSub hin
  refine ⟨E.same.but (E.new a ha) ho hp s, E.imm.trans g, s.tb fun p hq => TabS.less ho hp (E.tabs p hq), E.new, fun l hl => ?_, E.sep, E.len, fun j dv hj => ?_, E.lent, E.alone, E.apart⟩
  · by_cases z : l = a
    · exact ⟨o, by rw [z]; exact upd_same, hp2⟩
    · obtain ⟨u, q, nn⟩ := E.trk l hl
      exact ⟨u, by rw [upd_ne z]; exact q, nn⟩
  · obtain ⟨s1, q1, q⟩ := E.slot j dv hj
    refine ⟨s1, q1, ?_⟩
    cases dv with
    | u => trivial
    | v d => obtain ⟨x, q2, r2⟩ := q; exact ⟨x, q2, r2.mono g⟩
    | m d2 =>
      obtain ⟨c, q2, hc, r2⟩ := q
      subst q2
      have nca : c ≠ a := fun z => hn j d2 hj (by rw [q1, z])
      exact ⟨c, rfl, hc, r2.grow g fun u hu n => s.butAt nca hu n⟩
    | s d2 =>
      obtain ⟨b, C, dx, n, fs, ds, q2, h1, h2, h3, h4, r⟩ := q
      have nba : b ≠ a := fun z => E.sep a ha (by rw [← z]; exact h1)
      exact ⟨b, C, dx, n, fs, ds, q2, h1, h2, h3, s.butAt nba h4, r.mono g⟩
theorem df_comp {elt tg it : Expr} {ifs : List Expr} {scope : Scope} {own : List (Str × Nat)} {mi : LM} {g : GM} {mt : BM} {me : TM} (hc : X.calm = true) (hN : X.N.Nodup) (hi : DI X W tg it ba mi) (ok : BlkOk X.N X.env.scope scope own)
    (hg : ∀ (s : Shared) (H : Hp) (C : Addr) (cl : List (Str × Addr)) (fp : List Addr), DGw (X.blk s H scope (compEnvC scope cl C X.env) fp) (own.map (·.2)) tg g) (ht : ∀ (s : Shared) (H : Hp) (C : Addr) (cl : List (Str × Addr)) (fp : List Addr), DTs (X.blk s H scope (compEnvC scope cl C X.env) fp) NoW ifs mt)
    (he : ∀ (s : Shared) (H : Hp) (C : Addr) (cl : List (Str × Addr)) (fp : List Addr), DE (X.blk s H scope (compEnvC scope cl C X.env) fp) NoW elt false me) (hs : ∀ x, foldedSetIterable it X.env x = pure x := by intro _; rfl) :
    DF X W (.ListComp elt [⟨tg, it, ifs, 0⟩] scope pos) (mComp (own.map (·.2)) mi g mt me) :=
  PE.imp (pe_lc (g := tgw X.K (List.map (fun x : Str × Nat => x.2) own) g) (tt := tb X.K NoW mt) (te := tm X.K NoW false me) hc hN hi ok hg ht he hs) fun σ H Q ⟨F, ow, δ, P, EK, A, m, q⟩ => by
    refine ⟨F, ow, δ, _, EK, A, m, fun ds J H1 hds s1 ok => ?_⟩
    intro Dn hD
    have E1 := A.env.grow s1
    have nodn : ∀ (j : Nat) (dj : D), (wipeD δ (own.map (·.2)))[j]? = some (.m dj) → (L2.wipe σ (own.map (·.2)))[j]? ≠ some (some (.ref Dn)) := fun j dj h z => by
      obtain ⟨s, e1, a, e2, ha, _⟩ := (E1.wipe (own.map (·.2))).slot j _ h
      rw [e1] at z; cases z
      cases e2
      obtain ⟨o, q, nn⟩ := E1.trk Dn (List.mem_append_right _ ha)
      rw [hD] at q; cases q
    refine ⟨fun i n H => n = ds.length - i ∧ i ≤ ds.length ∧ Same H1 H ∧ EnvD X.K F (Dn :: ow) (L2.wipe σ (own.map (·.2))) (wipeD δ (own.map (·.2))) H ∧ ∃ xs acc, H Dn = some (.lst xs) ∧ xs.length ≤ i ∧ Reps X.K (sub H (F.ls0 ++ (Dn :: ow))) xs acc ∧ compL g mt me (wipeD δ (own.map (·.2))) (ds.drop i) acc P,
      ⟨_, rfl, Nat.zero_le _, same_upd hD, (E1.wipe _).grab hD (same_upd hD) ⟨_, upd_same, plain_of⟩, [], [], upd_same, Nat.le_refl _, .nil, hds⟩, ?_⟩
    rintro i n H2 ⟨rfl, hi2, s2, E2, xs, acc, hx, hl, rx, q2⟩
    have sg : Grow (flo ba H1 (F.ls0 ++ ow)) H2 := flo_le.trans s2.ob
    have sb : Grow (sub H1 (F.ls0 ++ ow)) (sub H2 (F.ls0 ++ (Dn :: ow))) := by
      rw [← sub_congr (H := H2) (mem_swap (ls := F.ls0) (own := ow) (p := Dn))]
      exact sub_fresh hD s2
    by_cases hlt : i < ds.length
    · refine .inr ⟨ok.go i H2 sg hlt, fun H' => Same H1 H' ∧ EnvD X.K F (Dn :: ow) (L2.wipe σ (own.map (·.2))) (wipeD δ (own.map (·.2))) H' ∧ ∃ xs acc, H' Dn = some (.lst xs) ∧ xs.length ≤ i + 1 ∧ Reps X.K (sub H' (F.ls0 ++ (Dn :: ow))) xs acc ∧ compL g mt me (wipeD δ (own.map (·.2))) (ds.drop (i + 1)) acc P,
        fun H' ⟨s', E', z⟩ => ⟨_, (by omega), rfl, hlt, s', E', z⟩, fun x H3 y => ?_⟩
      obtain ⟨d, ed, s3, r3⟩ := ok.yld i H2 x H3 (F.ls0 ++ (Dn :: ow)) sg sb E2.trk hlt y
      rw [drop_get ed] at q2
      have hz : xs.length < sizeLine := Nat.lt_of_le_of_lt hl (Nat.lt_of_lt_of_le hlt ok.sz)
      refine ⟨F, Dn :: ow, _, d, _, E2.grow s3, r3, q2, fun σ4 δ4 E4 w4 q4 => ⟨by rw [w4]; exact wipe_wipe, F, Dn :: ow, δ4, _, NoE, ⟨E4, noPass⟩, q4, fun b H5 p5 s5 => ?_⟩⟩
      cases b with
      | false =>
        have p5' : compL g mt me (wipeD δ (own.map (·.2))) (ds.drop (i + 1)) acc P := by simpa using p5
        exact iteF ⟨(s2.trans s3).trans s5, E2.grow (s3.trans s5), xs, acc, s5 _ _ (s3 _ _ hx), Nat.le_succ_of_le hl, rx.mono (sub_same (s3.trans s5)), p5'⟩
      | true =>
        refine iteT ⟨F, Dn :: ow, δ4, _, NoE, ⟨E4.grow s5, noPass⟩, (by simpa using p5), fun yd v H6 p6 s6 r6 => ?_⟩
        have hx6 := s6 _ _ (s5 _ _ (s3 _ _ hx))
        have es : sub (upd H6 Dn (.lst (xs ++ [v]))) (F.ls0 ++ (Dn :: ow)) = sub H6 (F.ls0 ++ (Dn :: ow)) := sub_upd (List.mem_append_right _ List.mem_cons_self)
        have sn : Same H1 (upd H6 Dn (.lst (xs ++ [v]))) := Same.put (((s2.trans s3).trans s5).trans s6) hD hx6
        refine ⟨xs, hx6, hz, sn, (E2.grow ((s3.trans s5).trans s6)).poke List.mem_cons_self hx6 nodn, xs ++ [v], acc ++ [yd], upd_same, ?_, ?_, p6⟩
        · rw [List.length_append, List.length_singleton]; omega
        · rw [es]
          exact (rx.mono (sub_same ((s3.trans s5).trans s6))).append (.cons r6.clean .nil)
    · have e : i = ds.length := by omega
      subst e
      rw [List.drop_length] at q2
      refine .inl ⟨ok.stop _ H2 sg rfl, q _ Dn H2 q2 (s1.free hD) (s1.trans s2) (.l hx (Nat.le_trans hl ok.sz) ?_)⟩
      rw [sub_congr (H := H2) (mem_swap (ls := F.ls0) (own := ow) (p := Dn))]
      exact rx
end
end DL
set_option Elab.async false
set_option linter.all false
set_option maxRecDepth 100000
set_option maxHeartbeats 4000000
/-! DL5: what a def computes, as data; calls. -/
namespace DL
open PySem PySem.Spec PyProof.Rows L2
variable [TabsC]
/-- no repr runs around; the table of modules stands -/
def GdOk (A : Around) (base : Heap) : Prop := A.guards = some [] ∧ ∃ mm, base.Ns sysModules mm
/-- a def's promise of positional calls where no repr runs around it -/
def FnP (P : Program) (w : World) (K : PySem.W.Frag) (mg : Str → Option Value) (base : Heap) (k : Nat) (f : Addr) (sp : Sp) : Prop :=
  ∀ (A : Around) (outer : List Env) (s : Shared) (H : Hp) (us : List Value) (vs : List V) (Q : VK) (E : XK), GdOk A base → Room k A → Env0 P w K mg base A outer s H → Vals vs us → sp vs H Q E → codeAny (model P w) A (.call (.ref f) ⟨us, []⟩) (CR (L2.CX P w) outer P w H s Q E) s
theorem FnP.mono {P : Program} {w : World} {K : PySem.W.Frag} {mg : Str → Option Value} {base : Heap} {j k : Nat} {f : Addr} {sp : Sp} (F : FnP P w K mg base j f sp) (h : j ≤ k) : FnP P w K mg base k f sp :=
  fun A outer s H us vs Q E hG hr => F A outer s H us vs Q E hG (hr.mono h)
abbrev FM := List D → (D → Prop) → (Er → Prop) → Prop
def spD (K : PySem.W.Frag) (m : FM) : Sp := fun vs H Q E => ∃ (fo : List Addr) (ds : List D) (P : D → Prop) (EK : Er → Prop), (∀ l, l ∈ fo → ∃ o, H l = some o ∧ Plain o) ∧ LamX.Tabs TabsC.T H ∧ Reps K (sub H fo) vs ds ∧ m ds P EK ∧
  (∀ d v H', P d → Same H H' → Rep K (sub H' fo) v d → Q v H') ∧ (∀ er cls dd H', EK er → Same H H' → RepEr K fo H' cls dd er → E cls dd H')
abbrev FnD (P : Program) (w : World) (K : PySem.W.Frag) (mg : Str → Option Value) (base : Heap) (k : Nat) (f : Addr) (m : FM) : Prop := FnP P w K mg base k f (spD K m)
/-- another reckoning that asks no less -/
theorem FnD.imp {P : Program} {w : World} {K : PySem.W.Frag} {mg : Str → Option Value} {base : Heap} {k : Nat} {f : Addr} {m m' : FM} (F : FnD P w K mg base k f m) (h : ∀ ds Q E, m' ds Q E → m ds Q E) : FnD P w K mg base k f m' :=
  fun A outer s H us vs Q E hG hr e r ⟨fo, ds, P, EK, t, tb, rs, m, q⟩ => F A outer s H us vs Q E hG hr e r ⟨fo, ds, P, EK, t, tb, rs, h _ _ _ m, q⟩
/-! .. of a method that may write its self -/
abbrev MM := D → List D → (D → D → Prop) → (D → Er → Prop) → Prop
def spM (K : PySem.W.Frag) (m : MM) : Sp := fun vs H Q E => ∃ (fo : List Addr) (x C dx : Addr) (n : Str) (ws : List V) (fs : List (Str × V)) (dfs : List (Str × D)) (ds : List D) (P : D → D → Prop) (EK : D → Er → Prop), vs = .ref x :: ws ∧ x ∈ fo ∧ (∀ l, l ∈ fo → ∃ o, H l = some o ∧ Plain o) ∧ LamX.Tabs TabsC.T H ∧
  PySem.W.nsIn K mainGlobals n = some (some (.ref C)) ∧ H x = some (.ins C dx fs) ∧ RepFs K (sub H fo) fs dfs ∧ Reps K (sub H fo) ws ds ∧ m (.obj n dfs) ds P EK ∧
  (∀ n' dfs' d v H' C' dx' fs', P (.obj n' dfs') d → PySem.W.nsIn K mainGlobals n' = some (some (.ref C')) → Same (sub H [x]) H' → H' x = some (.ins C' dx' fs') → RepFs K (sub H' fo) fs' dfs' → Rep K (sub H' fo) v d → Q v H') ∧
  (∀ n' dfs' er cls dd H' C' dx' fs', EK (.obj n' dfs') er → PySem.W.nsIn K mainGlobals n' = some (some (.ref C')) → Same (sub H [x]) H' → H' x = some (.ins C' dx' fs') → RepFs K (sub H' fo) fs' dfs' → RepEr K fo H' cls dd er → E cls dd H')
abbrev FnM (P : Program) (w : World) (K : PySem.W.Frag) (mg : Str → Option Value) (base : Heap) (k : Nat) (f : Addr) (m : MM) : Prop := FnP P w K mg base k f (spM K m)
theorem FnM.imp {P : Program} {w : World} {K : PySem.W.Frag} {mg : Str → Option Value} {base : Heap} {k : Nat} {f : Addr} {m m' : MM} (F : FnM P w K mg base k f m) (h : ∀ d ds Q E, m' d ds Q E → m d ds Q E) : FnM P w K mg base k f m' :=
  fun A outer s H us vs Q E hG hr e r ⟨fo, x, C, dx, n, ws, fs, dfs, ds, P, EK, ev, hx, t, tb, hn, ha, rf, rs, m, q⟩ => F A outer s H us vs Q E hG hr e r ⟨fo, x, C, dx, n, ws, fs, dfs, ds, P, EK, ev, hx, t, tb, hn, ha, rf, rs, h _ _ _ _ m, q⟩
def startD (n : Nat) (ds : List D) : List DV := ds.map DV.v ++ List.replicate (n - ds.length) DV.u
def endK (P : D → Prop) (EK : Er → Prop) : KD := ⟨fun _ => P .none, fun _ d => P d, fun _ => False, fun _ => False, fun _ er => EK er⟩
/-- the body's reckoning as the def's: np parameters -/
def mFun (np n : Nat) (m : SM) : FM := fun ds P EK => ds.length = np ∧ m (startD n ds) (endK P EK)
/-- .. with defaults for the last ones -/
def mFunD (np n : Nat) (dds : List D) (m : SM) : FM := fun ds P EK => ds.length ≤ np ∧ np ≤ ds.length + dds.length ∧ m (startD n (ds ++ dds.drop (ds.length + dds.length - np))) (endK P EK)
/-- .. with a star behind the parameters -/
def mFunS (np n : Nat) (m : SM) : FM := fun ds P EK => np ≤ ds.length ∧ ds.length ≤ sizeLine ∧ m (startD n (ds.take np ++ [.tup (ds.drop np)])) (endK P EK)
def endM (P : D → D → Prop) (EK : D → Er → Prop) : KD := ⟨fun δ => ∃ d, δ[0]? = some (.s d) ∧ P d .none, fun δ r => ∃ d, δ[0]? = some (.s d) ∧ P d r, fun _ => False, fun _ => False, fun δ er => ∃ d, δ[0]? = some (.s d) ∧ EK d er⟩
def mFunM (np n : Nat) (m : SM) : MM := fun self ds P EK => ds.length + 1 = np ∧ m (.s self :: startD (n - 1) ds) (endM P EK)
def mFunMD (np n : Nat) (dds : List D) (m : SM) : MM := fun self ds P EK => ds.length + 1 ≤ np ∧ np ≤ ds.length + 1 + dds.length ∧ m (.s self :: startD (n - 1) (ds ++ dds.drop (ds.length + 1 + dds.length - np))) (endM P EK)
def mFunMS (n : Nat) (m : SM) : MM := fun self ds P EK => ds.length ≤ sizeLine ∧ m (.s self :: startD (n - 1) [.tup ds]) (endM P EK)
theorem start_slot {K : PySem.W.Frag} {fo : List Addr} {vs : List V} {ds : List D} {H : Hp} {n m : Nat} (r : Reps K (sub H fo) vs ds) (e : n - ds.length = m - vs.length) : ∀ (i : Nat) (dv : DV), (startD n ds)[i]? = some dv → ∃ s, (vs.map some ++ List.replicate (m - vs.length) none)[i]? = some s ∧ ((∃ d v, dv = .v d ∧ s = some v ∧ Rep K (sub H fo) v d) ∨ dv = .u) := by
  intro i dv h
  have hl := r.length
  unfold startD at h
  by_cases hi : i < ds.length
  · rw [List.getElem?_append_left (by simpa using hi), List.getElem?_map, List.getElem?_eq_getElem hi] at h
    have h' : DV.v ds[i] = dv := Option.some.inj h
    subst h'
    obtain ⟨v, ev, rv⟩ := r.get' (List.getElem?_eq_getElem hi)
    refine ⟨some v, ?_, .inl ⟨_, v, rfl, rfl, rv⟩⟩
    rw [List.getElem?_append_left (by rw [List.length_map, hl]; exact hi), List.getElem?_map, ev]
    rfl
  · rw [List.getElem?_append_right (by simpa using hi), List.getElem?_replicate] at h
    split at h
    · cases h
      rename_i hq
      refine ⟨none, ?_, .inr rfl⟩
      rw [List.getElem?_append_right (by rw [List.length_map, hl]; omega), List.getElem?_replicate, if_pos]
      rw [List.length_map] at hq ⊢
      rw [← e, hl]
      exact hq
    · cases h
theorem startD_len {n : Nat} {ds : List D} : (startD n ds).length = ds.length + (n - ds.length) := by
  unfold startD
  rw [List.length_append, List.length_map, List.length_replicate]
theorem startD_kind {n i : Nat} {ds : List D} {dv : DV} (h : (startD n ds)[i]? = some dv) : (∃ d, dv = .v d) ∨ dv = .u := by
  unfold startD at h
  by_cases hi : i < ds.length
  · rw [List.getElem?_append_left (by simpa using hi), List.getElem?_map, List.getElem?_eq_getElem hi] at h
    exact .inl ⟨_, (Option.some.inj h).symm⟩
  · rw [List.getElem?_append_right (by simpa using hi), List.getElem?_replicate] at h
    split at h
    · exact .inr (Option.some.inj h).symm
    · cases h
theorem env_start {K : PySem.W.Frag} {fo : List Addr} {vs : List V} {ds : List D} {H : Hp} {N : List Str} (ht : ∀ l, l ∈ fo → ∃ o, H l = some o ∧ Plain o) (tb : LamX.Tabs TabsC.T H) (r : Reps K (sub H fo) vs ds) : EnvD K ⟨fo, H, sub H fo⟩ [] (L2.start N vs) (startD N.length ds) H := by
  have e : fo ++ [] = fo := List.append_nil fo
  have hl := r.length
  have no : ∀ (i : Nat) (d : D), (startD N.length ds)[i]? ≠ some (.s d) ∧ (startD N.length ds)[i]? ≠ some (.m d) := fun i d => by
    constructor
    · intro z
      rcases startD_kind z with ⟨_, q⟩ | q <;> cases q
    · intro z
      rcases startD_kind z with ⟨_, q⟩ | q <;> cases q
  refine ⟨Same.refl H, by rw [e]; exact Grow.refl _, tb, fun l h => absurd h (by simp), fun l h => ht l (by rw [← e]; exact h), fun l h => absurd h (by simp), ?_, fun i dv h => ?_, fun i d a h => absurd h (no i d).1, fun i j di dj a h => absurd h (no i di).1, fun i j di dj a h => absurd h (no i di).2⟩
  · rw [startD_len]
    unfold L2.start
    rw [List.length_append, List.length_map, List.length_replicate, hl]
  · obtain ⟨s, hs, q⟩ := start_slot (m := N.length) r (by rw [hl]) i dv h
    refine ⟨s, hs, ?_⟩
    rcases q with ⟨d, v, rfl, rfl, rv⟩ | rfl
    · exact ⟨v, rfl, by rw [e]; exact rv⟩
    · trivial
/-- .. of a method, its self lent -/
theorem env_startM {K : PySem.W.Frag} {fo : List Addr} {x C dx : Addr} {n : Str} {ws : List V} {fs : List (Str × V)} {dfs : List (Str × D)} {ds : List D} {H : Hp} {N : List Str} (hN : N ≠ []) (hx : x ∈ fo) (ht : ∀ l, l ∈ fo → ∃ o, H l = some o ∧ Plain o) (tb : LamX.Tabs TabsC.T H) (hn : PySem.W.nsIn K mainGlobals n = some (some (.ref C))) (ha : H x = some (.ins C dx fs)) (rf : RepFs K (sub H fo) fs dfs) (r : Reps K (sub H fo) ws ds) :
    EnvD K ⟨fo, sub H [x], sub H fo⟩ [] (L2.start N (.ref x :: ws)) (.s (.obj n dfs) :: startD (N.length - 1) ds) H := by
  have e : fo ++ [] = fo := List.append_nil fo
  have hl := r.length
  have hp : 0 < N.length := List.length_pos_iff.mpr hN
  have es : L2.start N (.ref x :: ws) = some (.ref x) :: (ws.map some ++ List.replicate (N.length - 1 - ws.length) none) := by
    unfold L2.start
    rw [List.map_cons, List.length_cons, List.cons_append, show N.length - (ws.length + 1) = N.length - 1 - ws.length by omega]
  have no : ∀ (i : Nat) (d : D), (.s (.obj n dfs) :: startD (N.length - 1) ds)[i]? = some (.s d) → i = 0 := fun i d h => by
    cases i with
    | zero => rfl
    | succ i =>
      rcases startD_kind (by simpa using h) with ⟨_, q⟩ | q <;> cases q
  have nm : ∀ (i : Nat) (d : D), (.s (.obj n dfs) :: startD (N.length - 1) ds)[i]? ≠ some (.m d) := fun i d h => by
    cases i with
    | zero => cases h
    | succ i =>
      rcases startD_kind (by simpa using h) with ⟨_, q⟩ | q <;> cases q
  refine ⟨same_less, by rw [e]; exact Grow.refl _, tb, fun l h => absurd h (by simp), fun l h => ht l (by rw [← e]; exact h), fun l h => absurd h (by simp), ?_, fun i dv h => ?_, fun i d a h h2 => ?_, fun i j di dj a h h2 _ _ => by rw [no i di h, no j dj h2], fun i j di dj a h => absurd h (nm i di)⟩
  · rw [es, List.length_cons, List.length_cons, startD_len, List.length_append, List.length_map, List.length_replicate, hl]
  · rw [es]
    cases i with
    | zero =>
      cases h
      exact ⟨_, rfl, x, C, dx, n, fs, dfs, rfl, hx, rfl, hn, ha, by rw [e]; exact rf⟩
    | succ i =>
      obtain ⟨s, hs, q⟩ := start_slot (m := N.length - 1) r (by rw [hl]) i dv (by simpa using h)
      refine ⟨s, by simpa using hs, ?_⟩
      rcases q with ⟨d, v, rfl, rfl, rv⟩ | rfl
      · exact ⟨v, rfl, by rw [e]; exact rv⟩
      · trivial
  · have := no i d h
    subst this
    rw [es] at h2
    cases h2
    exact sub_in (List.mem_singleton.mpr rfl)
section
variable {P : Program} {w : World} {K : PySem.W.Frag} {mg : Str → Option Value} {base : Heap}
/-- THE RULE for a def, by its body's reading -/
theorem fnP_of {x qual : Str} {st : Stmt} {f : Addr} {fd : FuncData} {N ps : List Str} {k : Nat} {sp sb : Sp} (F : Fun K x qual st f fd) (S : FnScope N ps (defScope st))
    (har : ∀ (s : Shared) (us : List Value) (vs : List V) (H : Hp) (Q : VK) (E : XK), K.In s.heap → Vals vs us → sp vs H Q E → ∃ vs' us', Vals vs' us' ∧ vs'.length = ps.length ∧ BindsTo s fd ⟨us, []⟩ (ps.zip us') ∧ sb vs' H Q E)
    (hbody : ∀ (cdv : Value) (A : Around) (outer : List Env) (s : Shared) (H : Hp) (vs : List V) (Q : VK) (E : XK), GdOk A base → Room k (A.deeper (envOfC qual (defScope st) s.heap.objs.size f cdv)) → sb vs H Q E →
      ∃ t, PSs (cxOf (L2.CX P w) P w K mg base N qual (defScope st) f cdv A outer s H E) (defBody st) t ∧ t { nx := fun _ H' => Q .non H', rt := Q } (L2.start N vs) H) : FnP P w K mg base (k + 1) f sp := by
  obtain ⟨oc, od, kV, doc, pm, an, cdv, ct, osl, rfl, lk, hcd⟩ := F.ex
  intro A outer s H us0 vs0 Q E hG hr e0 r0 hsp0
  have KX : K.In s.heap := e0.mod.kin.keeps fun b o e => (e0.bs b o e).1
  obtain ⟨vs, us, r, hl, hb, hsp⟩ := har s us0 vs0 H Q E KX r0 hsp0
  have lim : s.heap.NoLimit := e0.mod.nolimit.keeps fun b o e => (e0.bs b o e).1
  refine codeAny_call_function hr.depth (KX _ _ lk) rfl S.co S.gen rfl (PySem.W.codeRec_of KX hcd) (hb _ _ _ _ ?_)
  refine wpAny_newFunctionEnv_cells S.kind (fun ⟨n, v⟩ hy => ?_) fun env he s1 x => ?_
  · rcases S.par n (List.of_mem_zip hy).1 with q | q
    · exact .inl q
    · exact .inr ⟨q, PySem.W.cellsFrom_some _ _ _ (.inl q)⟩
  subst he
  refine ⟨lim.keeps x.toInCall.keep, codeAny_func ?_⟩
  have I : Inv (cxOf (L2.CX P w) P w K mg base N qual (defScope st) f cdv A outer s H E) [] (L2.start N vs) H s1 := inv_start S hr.hd e0 hl r x
  obtain ⟨t, ht, hw⟩ := hbody cdv A outer s H vs Q E hG (hr.deeper _) hsp
  refine wpAny_mono (ht.run [] s1 _ H _ I hw) (fun fl s' hs => ?_) fun e s' hs => hs
  cases fl with
  | ret u =>
    obtain ⟨v, σ', H', J, rv, q⟩ := hs
    exact ⟨v, H', J.os, J.bare, J.base, J.hok, rv, q⟩
  | next =>
    obtain ⟨σ', H', J, q⟩ := hs
    exact ⟨V.non, H', J.os, J.bare, J.base, J.hok, rfl, q⟩
  | brk =>
    obtain ⟨_, _, _, q⟩ := hs
    exact q.elim
  | cont =>
    obtain ⟨_, _, _, q⟩ := hs
    exact q.elim
/-- .. with a star behind np parameters -/
theorem fnP_star {x qual pv : Str} {st : Stmt} {f : Addr} {fd : FuncData} {N ps : List Str} {k : Nat} {sp sb : Sp} (F : Fun K x qual st f fd) (S : FnScope N (ps ++ [pv]) (defScope st))
    (hb : ∀ us rest : List Value, us.length = ps.length → bindArgs fd ⟨us ++ rest, []⟩ = (newTuple rest >>= fun t => pure (ps.zip us ++ [(pv, t)])))
    (har : ∀ (vs : List V) (H : Hp) (Q : VK) (E : XK), sp vs H Q E → ∃ ws rest, vs = ws ++ rest ∧ ws.length = ps.length ∧ rest.length ≤ sizeLine ∧ ∀ p, H p = none → sb (ws ++ [V.ref p]) (upd H p (.tup rest)) Q E)
    (hbody : ∀ (cdv : Value) (A : Around) (outer : List Env) (s : Shared) (H : Hp) (vs : List V) (Q : VK) (E : XK), GdOk A base → Room k (A.deeper (envOfC qual (defScope st) s.heap.objs.size f cdv)) → sb vs H Q E →
      ∃ t, PSs (cxOf (L2.CX P w) P w K mg base N qual (defScope st) f cdv A outer s H E) (defBody st) t ∧ t { nx := fun _ H' => Q .non H', rt := Q } (L2.start N vs) H) : FnP P w K mg base (k + 1) f sp := by
  obtain ⟨oc, od, kV, doc, pm, an, cdv, ct, osl, rfl, lk, hcd⟩ := F.ex
  intro A outer s H us vs Q E hG hr e0 r hsp0
  obtain ⟨ws, rest, ev, hl, hz, hq⟩ := har vs H Q E hsp0
  subst ev
  obtain ⟨u1, u2, eu, r1, r2⟩ := StX.vals_split r
  subst eu
  have hn : H s.heap.objs.size = Option.none := e0.hok.fresh (Nat.le_refl _)
  have hl1 : u1.length = ps.length := by rw [← r1.length]; exact hl
  have hl2 : u2.length ≤ sizeLine := by rw [← r2.length]; exact hz
  refine StX.run_bnd lk hcd S hr e0 (G := fun xs H2 => ∃ p, H p = Option.none ∧ xs = ws ++ [V.ref p] ∧ H2 = upd H p (.tup rest)) (fun A' Ex Q' h => ?_) fun s2 H2 xs ⟨p, hp, ex, eH⟩ hr' => ?_
  · rw [hb u1 u2 hl1]
    refine wpAny_bind (wpAny_newTuple (wpAny_pure ?_) hl2)
    have new : ObjOk P w (upd H s.heap.objs.size (.tup rest)) (s.heap.push ({ cls := .type "tuple", data := .seq u2.toArray } : Obj)) s.heap.objs.size (.tup rest) := ⟨hz, u2, r2, ⟨_, Heap.get?_push_size _ rfl, rfl, _, rfl⟩⟩
    have un := StX.un_laid (fs := frs outer) (s := s) (o := ({ cls := .type "tuple", data := .seq u2.toArray } : Obj)) (u := .tup rest) hn
    have z := h _ _ (ws ++ [V.ref s.heap.objs.size]) (u1 ++ [Value.ref s.heap.objs.size]) (StX.env0_laid e0 new) un rfl (fun e s' => StX.cxUp outer s H _ _ E e s' un (fun b o q => Heap.get?_push_of_some _ q) rfl) (r1.append (.cons rfl .nil))
      (by rw [List.length_append, List.length_append, hl] <;> rfl) ⟨_, hn, rfl, rfl⟩
    rw [List.zip_append hl1.symm] at z
    exact z
  · subst ex eH
    exact hbody _ A outer s2 _ _ Q E hG hr' (hq p hp)
theorem links_end {cx : Cx} {fo : List Addr} {H : Hp} {Q : VK} {E : XK} {P : D → Prop} {EK : Er → Prop} {Hi : Hp} (hq : ∀ d v H', P d → Same H H' → Rep K (sub H' fo) v d → Q v H') (he : ∀ er cls dd H', EK er → Same H H' → RepEr K fo H' cls dd er → E cls dd H') :
    LinkS K (fun cls dd _ H => E cls dd H) ⟨fo, H, Hi⟩ (endK P EK) { nx := fun _ H' => Q .non H', rt := Q } :=
  ⟨fun σ H' own δ E' q => hq .none .non H' q E'.same .non, fun v σ H' own δ d E' r' q => hq d v H' q E'.same r', fun _ _ _ _ _ q => q.elim, fun _ _ _ _ _ q => q.elim, fun er cls dd σ H' own δ E' q r' => he er cls dd H' q E'.same (r'.less fun a h => List.mem_append_left _ h)⟩
abbrev Wof (E : XK) : WX := fun cls dd _ H => E cls dd H
variable {x qual pv : Str} {st : Stmt} {f : Addr} {fd : FuncData} {N ps : List Str} {k : Nat} {m : SM}
theorem fnD_of (F : Fun K x qual st f fd) (S : FnScope N ps (defScope st)) (hb : Binds K fd ps [])
    (hbody : ∀ (cdv : Value) (A : Around) (outer : List Env) (s : Shared) (H : Hp) (E : XK), GdOk A base → Room k (A.deeper (envOfC qual (defScope st) s.heap.objs.size f cdv)) →
      DSs (cxOf (L2.CX P w) P w K mg base N qual (defScope st) f cdv A outer s H E) (Wof E) (defBody st) m) : FnD P w K mg base (k + 1) f (mFun ps.length N.length m) := by
  refine fnP_of F S (sb := spD K (mFun ps.length N.length m)) (fun s us vs H Q E hK r h => ?_) fun cdv A outer s H vs Q E hG hr h => ?_
  · obtain ⟨fo, ds, PQ, EK, ht, tb, rs, ⟨hl, hm⟩, q⟩ := id h
    have e : us.length = ps.length := by rw [← r.length, rs.length]; exact hl
    have b := hb s us hK (by rw [List.append_nil]; exact e)
    rw [List.append_nil] at b
    exact ⟨vs, us, r, by rw [rs.length]; exact hl, b, h⟩
  · obtain ⟨fo, ds, PQ, EK, ht, tb, rs, ⟨hl, hm⟩, hq, he⟩ := h
    exact ⟨_, hbody cdv A outer s H E hG hr, ⟨fo, H, sub H fo⟩, [], _, _, env_start ht tb rs, hm, links_end (cx := cxOf (L2.CX P w) P w K mg base N qual (defScope st) f cdv A outer s H E) hq he⟩
/-! methods with a self that may be written -/
theorem self_at {F : Fm} {own : List Addr} {σ : L2.St} {δ : List DV} {H H' : Hp} {x : Addr} {d : D} (E : EnvD K F own σ δ H') (hx : F.H0 = sub H [x]) (ht : ∀ l, l ∈ F.ls0 → ∃ o, H l = some o ∧ Plain o) (h : δ[0]? = some (.s d)) : ∃ C dx n fs ds, d = .obj n ds ∧ PySem.W.nsIn K mainGlobals n = some (some (.ref C)) ∧ H' x = some (.ins C dx fs) ∧ RepFs K (sub H' (F.ls0 ++ own)) fs ds := by
  obtain ⟨s0, e1, a, C, dx, n, fs, ds, rfl, ha, ed, hn, hH, rf⟩ := E.slot 0 _ h
  have h0 := E.lent 0 d a h e1
  rw [hx] at h0
  have : a = x := by
    by_cases z : a = x
    · exact z
    · rw [sub_out (by simpa using z)] at h0
      obtain ⟨o, e, nn⟩ := ht a ha
      rw [h0] at e; cases e
  subst this
  exact ⟨C, dx, n, fs, ds, ed, hn, hH, rf⟩
theorem links_endM {fo : List Addr} {x : Addr} {H : Hp} {Q : VK} {E : XK} {P : D → D → Prop} {EK : D → Er → Prop} {Hi : Hp} (ht : ∀ l, l ∈ fo → ∃ o, H l = some o ∧ Plain o)
    (hq : ∀ n' dfs' d v H' C' dx' fs', P (.obj n' dfs') d → PySem.W.nsIn K mainGlobals n' = some (some (.ref C')) → Same (sub H [x]) H' → H' x = some (.ins C' dx' fs') → RepFs K (sub H' fo) fs' dfs' → Rep K (sub H' fo) v d → Q v H')
    (he : ∀ n' dfs' er cls dd H' C' dx' fs', EK (.obj n' dfs') er → PySem.W.nsIn K mainGlobals n' = some (some (.ref C')) → Same (sub H [x]) H' → H' x = some (.ins C' dx' fs') → RepFs K (sub H' fo) fs' dfs' → RepEr K fo H' cls dd er → E cls dd H') :
    LinkS K (Wof E) ⟨fo, sub H [x], Hi⟩ (endM P EK) { nx := fun _ H' => Q .non H', rt := Q } := by
  have le : ∀ {H' : Hp} {own : List Addr}, Grow (sub H' (fo ++ own)) (sub H' fo) := sub_less fun a h => List.mem_append_left _ h
  refine ⟨fun σ H' own δ E' ⟨d, hd, q⟩ => ?_, fun v σ H' own δ r E' r' ⟨d, hd, q⟩ => ?_, fun _ _ _ _ _ q => q.elim, fun _ _ _ _ _ q => q.elim, fun er cls dd σ H' own δ E' ⟨d, hd, q⟩ r' => ?_⟩
  · obtain ⟨C, dx, n, fs, ds, rfl, hn, hx, rf⟩ := self_at E' rfl ht hd
    exact hq n ds .none .non H' C dx fs q hn E'.same hx (rf.mono le) .non
  · obtain ⟨C, dx, n, fs, ds, rfl, hn, hx, rf⟩ := self_at E' rfl ht hd
    exact hq n ds r v H' C dx fs q hn E'.same hx (rf.mono le) r'
  · obtain ⟨C, dx, n, fs, ds, rfl, hn, hx, rf⟩ := self_at E' rfl ht hd
    exact he n ds er cls dd H' C dx fs q hn E'.same hx (rf.mono le) (r'.less fun a h => List.mem_append_left _ h)
theorem fnM_of (F : Fun K x qual st f fd) (S : FnScope N ps (defScope st)) (hb : Binds K fd ps []) (hN : N ≠ [])
    (hbody : ∀ (cdv : Value) (A : Around) (outer : List Env) (s : Shared) (H : Hp) (E : XK), GdOk A base → Room k (A.deeper (envOfC qual (defScope st) s.heap.objs.size f cdv)) →
      DSs (cxOf (L2.CX P w) P w K mg base N qual (defScope st) f cdv A outer s H E) (Wof E) (defBody st) m) : FnM P w K mg base (k + 1) f (mFunM ps.length N.length m) := by
  refine fnP_of F S (sb := spM K (mFunM ps.length N.length m)) (fun s us vs H Q E hK r h => ?_) fun cdv A outer s H vs Q E hG hr h => ?_
  · obtain ⟨fo, x, C, dx, n, ws, fs, dfs, ds, PQ, EK, ev, hx, ht, tb, hn, ha, rf, rs, ⟨hl, hm⟩, q⟩ := id h
    have e : us.length = ps.length := by rw [← r.length, ev, List.length_cons, rs.length]; exact hl
    have b := hb s us hK (by rw [List.append_nil]; exact e)
    rw [List.append_nil] at b
    exact ⟨vs, us, r, by rw [← e, r.length], b, h⟩
  · obtain ⟨fo, x, C, dx, n, ws, fs, dfs, ds, PQ, EK, rfl, hx, ht, tb, hn, ha, rf, rs, ⟨hl, hm⟩, hq, he⟩ := h
    exact ⟨_, hbody cdv A outer s H E hG hr, ⟨fo, sub H [x], sub H fo⟩, [], _, _, env_startM hN hx ht tb hn ha rf rs, hm, links_endM ht hq he⟩
theorem fnM_star {p0 : Str} (F : Fun K x qual st f fd) (S : FnScope N ([p0] ++ [pv]) (defScope st)) (hb : ∀ us rest : List Value, us.length = [p0].length → bindArgs fd ⟨us ++ rest, []⟩ = (newTuple rest >>= fun t => pure ([p0].zip us ++ [(pv, t)]))) (hN : N ≠ [])
    (hbody : ∀ (cdv : Value) (A : Around) (outer : List Env) (s : Shared) (H : Hp) (E : XK), GdOk A base → Room k (A.deeper (envOfC qual (defScope st) s.heap.objs.size f cdv)) →
      DSs (cxOf (L2.CX P w) P w K mg base N qual (defScope st) f cdv A outer s H E) (Wof E) (defBody st) m) : FnM P w K mg base (k + 1) f (mFunMS N.length m) := by
  refine fnP_star F S (sb := spM K (mFunM 2 N.length m)) hb (fun vs H Q E h => ?_) fun cdv A outer s H vs Q E hG hr h => ?_
  · obtain ⟨fo, x, C, dx, n, ws, fs, dfs, ds, PQ, EK, rfl, hx, ht, tb, hn, ha, rf, rs, ⟨h1, hm⟩, hq, he⟩ := h
    have lv := rs.length
    refine ⟨[.ref x], ws, rfl, rfl, by omega, fun p hp => ?_⟩
    have g := (sub_same (ls := fo) (same_upd (o := .tup ws) hp).ob)
    have np : p ∉ fo := fun z => by
      obtain ⟨o, e, nn⟩ := ht p z
      rw [hp] at e; cases e
    have nx : x ≠ p := fun z => np (by rw [← z]; exact hx)
    have sx : Same (sub H [x]) (sub (upd H p (.tup ws)) [x]) := Same.of fun b u q => by
      by_cases hb : b ∈ [x]
      · rw [sub_in hb] at q; cases q
      · rw [sub_out hb] at q ⊢
        rw [upd_ne (ne_of_none q hp)]; exact q
    refine ⟨fo, x, C, dx, n, [.ref p], fs, dfs, [.tup ds], PQ, EK, rfl, hx, fun l hl => ?_, (same_upd hp).tb tb, hn, by rw [upd_ne nx]; exact ha, rf.mono g, .cons (.tup (.of (by rw [sub_out np]; exact upd_same)) (by omega) (rs.mono g)) .nil, ⟨rfl, hm⟩, fun n' dfs' d v H' C' dx' fs' pd hn' s => hq n' dfs' d v H' C' dx' fs' pd hn' (sx.trans s), fun n' dfs' er cls dd H' C' dx' fs' pd hn' s => he n' dfs' er cls dd H' C' dx' fs' pd hn' (sx.trans s)⟩
    obtain ⟨o, e, nn⟩ := ht l hl
    exact ⟨o, by rw [upd_ne (ne_of_none e hp)]; exact e, nn⟩
  · obtain ⟨fo, x, C, dx, n, ws, fs, dfs, ds, PQ, EK, rfl, hx, ht, tb, hn, ha, rf, rs, ⟨hl, hm⟩, hq, he⟩ := h
    exact ⟨_, hbody cdv A outer s H E hG hr, ⟨fo, sub H [x], sub H fo⟩, [], _, _, env_startM hN hx ht tb hn ha rf rs, hm, links_endM ht hq he⟩
end
/-! ### calls -/
section
variable {X : Cx} {W : WX} {a b c e o : Expr} {es : List Expr} {ba : Bool} {la : LM} {p pos : Pos} {x : Str} {k : Nat} {f : Addr} {m : FM}
theorem runP {pins : List (Addr × Obj)} {σ : L2.St} {H : Hp} {s : Shared} {Q : VK} {us : List Value} {vs : List V} {sp : Sp} {E : XK} (F : FnP X.prog X.w X.K X.mg X.base k f sp) (hG : GdOk X.A X.base) (hr : Room k X.A) (tk : Takes X W)
    (hE : ∀ cls dd H', E cls dd H' → W cls dd σ H') (I : Inv X pins σ H s) (r : Vals vs us) (h : sp vs H Q E) : wpAny (model X.prog X.w) X.A (call (.ref f) us) (EP X pins σ Q) X.xe s := by
  refine wpAny_call (codeAny_mono (F X.A X.stack s H us vs Q E hG hr I.env0 r h) fun r s' hq => ?_)
  cases r with
  | error e => exact tk e s' (XE.of_call I hE hq)
  | ok fl =>
    cases fl with
    | ret u => exact I.after hq
    | next => exact False.elim hq
    | brk => exact False.elim hq
    | cont => exact False.elim hq
def mCall (m : FM) (la : LM) : TM := fun δ Q E => la δ (fun ds => m ds Q E) E
theorem At.tabs {K : PySem.W.Frag} {W : WX} {σ : L2.St} {H : Hp} {F : Fm} {own : List Addr} {δ : List DV} {EK : Er → Prop} (A : At K W σ H F own δ EK) : LamX.Tabs TabsC.T H := A.env.tabs
theorem de_call (F : FnD X.prog X.w X.K X.mg X.base k f m) (hG : GdOk X.A X.base) (hr : Room k X.A) (tk : Takes X W) (hg : Gl X x) (hm : X.mg x = some (.ref f)) (hk : PySem.W.keepIn X.K (.ref f) = true)
    (ha : DA X W (e :: es) false la) (hdb : (x == ("__debug__" : Str)) = false := by decide) (he : starEach (e :: es) X.env = (false, eval e X.env) :: starEach es X.env := by rfl)
    (hpl : (backTo pos (starEach es X.env)).any (·.1) = false := by rfl) : DE X W (.Call (.Name x p) (e :: es) [] pos) false (mCall m la) := by
  refine ⟨fun pins s σ H Q I ⟨FF, own, δ, P, EK, A, mm, q⟩ => ?_⟩
  refine wpAny_Call_Name_kw (ld_glob I hg hm ?_ hdb)
  refine PySem.W.callWith_K (h₀ := X.base) I.ok.mod.kin hk (thn (ha.run pos pins s σ H (fun vs H1 => ∃ ds, m ds P EK ∧ Same H H1 ∧ RVs X.K FF.ls0 (FF.ls0 ++ own) H1 false vs ds) I
    ⟨FF, own, δ, _, EK, A, mm, fun ds vs H1 p1 s1 r1 => ⟨ds, p1, s1, r1⟩⟩) fun us s1 ⟨vs, H1, I1, rv, ds, hm1, s01, rr⟩ => ⟨I1.kIn, ?_⟩) he hpl
  have A1 := A.on s01
  exact runP F hG hr tk (E := fun cls dd H' => W cls dd σ H') (fun _ _ _ h => h) I1 rv ⟨FF.ls0 ++ own, ds, P, EK, A1.env.trk, A1.tabs, rr.clean, hm1, fun d v H' pd s2 r2 => q d v H' pd (s01.trans s2) (.cl r2), fun er cls dd H' ke s2 r2 => A1.pass er cls dd H' ke s2 r2⟩
def mCall0 (m : FM) : TM := fun _ Q E => m [] Q E
end
end DL
set_option Elab.async false
set_option linter.all false
set_option maxRecDepth 100000
set_option maxHeartbeats 4000000
/-! DL6: operators and built-ins on data. -/
namespace DL
open PySem PySem.Spec PyProof.Rows L2
variable [TabsC]
section
variable {X : Cx} {W : WX}
/-! ### arithmetic -/
def fAdd (x y : D) (Q : D → Prop) : Prop := match x, y with
  | .int i, .int j => Q (.int (i + j))
  | .str a, .str b => a.length + b.length ≤ sizeLine ∧ Q (.str (a ++ b))
  | .tup xs, .tup ys => xs.length + ys.length ≤ sizeLine ∧ Q (.tup (xs ++ ys))
  | .list xs, .list ys => xs.length + ys.length ≤ sizeLine ∧ Q (.list (xs ++ ys))
  | _, _ => False
theorem op_addD : OpR X (binaryOp .Add) (fun x y H Q => rI0 (fun i j => .int (i + j)) x y H Q ∨ ((∃ i j, x = V.str i ∧ y = V.str j ∧ i.length + j.length ≤ sizeLine ∧ Q (V.str (i ++ j)) H) ∨ (rCatA X.K x y H Q ∨ rCat x y H Q))) := op_add.or (op_add_str.or (op_catA.or op_cat))
theorem nofr {H : Hp} {ls : List Addr} {p : Addr} (ht : ∀ l, l ∈ ls → ∃ o, H l = some o ∧ Plain o) (hp : H p = none) : p ∉ ls := fun z => by
  obtain ⟨o, e, nn⟩ := ht p z
  rw [hp] at e; cases e
theorem new_tup {K : PySem.W.Frag} {H : Hp} {ls : List Addr} {p : Addr} {xs : List V} {ds : List D} (ht : ∀ l, l ∈ ls → ∃ o, H l = some o ∧ Plain o) (hp : H p = none) (hz : xs.length ≤ sizeLine) (r : Reps K (sub H ls) xs ds) : Rep K (sub (upd H p (.tup xs)) ls) (.ref p) (.tup ds) :=
  .tup (.of (by rw [sub_out (nofr ht hp)]; exact upd_same)) hz (r.mono (sub_same (same_upd hp).ob))
theorem new_list {K : PySem.W.Frag} {H : Hp} {ls : List Addr} {p : Addr} {xs : List V} {ds : List D} (ht : ∀ l, l ∈ ls → ∃ o, H l = some o ∧ Plain o) (hp : H p = none) (hz : xs.length ≤ sizeLine) (r : Reps K (sub H ls) xs ds) : Rep K (sub (upd H p (.lst xs)) ls) (.ref p) (.list ds) :=
  .list (by rw [sub_out (nofr ht hp)]; exact upd_same) hz (r.mono (sub_same (same_upd hp).ob))
theorem link_add : LinkOp X.K (fun x y H Q => rI0 (fun i j => .int (i + j)) x y H Q ∨ ((∃ i j, x = V.str i ∧ y = V.str j ∧ i.length + j.length ≤ sizeLine ∧ Q (V.str (i ++ j)) H) ∨ (rCatA X.K x y H Q ∨ rCat x y H Q))) fAdd := by
  intro fo ls H x y dx dy P Q ht rx ry h q
  unfold fAdd at h
  split at h
  · exact .inl ⟨_, _, rx.isInt, ry.isInt, q _ _ H h (Same.refl H) (.int _)⟩
  · exact .inr (.inl ⟨_, _, rx.isStr, ry.isStr, h.1, q _ _ H h.2 (Same.refl H) (.str _)⟩)
  · obtain ⟨hz, h⟩ := h
    obtain ⟨a, us, rfl, ha, hl, rs⟩ := rx.tup
    obtain ⟨b, ws, rfl, hb, hl2, rs2⟩ := ry.tup
    have hz' : us.length + ws.length ≤ sizeLine := by rw [rs.length, rs2.length]; exact hz
    refine .inr (.inr (.inl ⟨a, b, us, ws, rfl, rfl, ha, hb, hz', fun e => ?_, fun _ e => ?_, fun _ _ p hp => ?_⟩))
    · subst e
      cases rs
      cases ry with
      | cl ry => exact q _ _ H h (Same.refl H) (by simpa using ry)
    · subst e
      cases rs2
      cases rx with
      | cl rx => exact q _ _ H h (Same.refl H) (by simpa using rx)
    · exact q _ _ _ h (same_upd hp) (new_tup ht hp (by rw [List.length_append]; exact hz') (rs.append rs2))
  · obtain ⟨hz, h⟩ := h
    obtain ⟨a, us, rfl, ha, hl, rs⟩ := rx.list
    obtain ⟨b, ws, rfl, hb, hl2, rs2⟩ := ry.list
    have hz' : us.length + ws.length ≤ sizeLine := by rw [rs.length, rs2.length]; exact hz
    exact .inr (.inr (.inr ⟨a, b, us, ws, rfl, rfl, ha, hb, hz', fun p hp => q _ _ _ h (same_upd hp) (new_list ht hp (by rw [List.length_append]; exact hz') (rs.append rs2))⟩))
  · exact h.elim
/-- two ints -/
def fI (C : Int → Int → Prop) (g : Int → Int → Int) (x y : D) (Q : D → Prop) : Prop := match x, y with
  | .int i, .int j => C i j ∧ Q (.int (g i j))
  | _, _ => False
theorem link_I {C : Int → Int → Prop} {g : Int → Int → Int} : LinkOp X.K (rI C fun i j => .int (g i j)) (fI C g) := by
  intro fo ls H x y dx dy P Q ht rx ry h q
  unfold fI at h
  split at h
  · exact ⟨_, _, rx.isInt, ry.isInt, h.1, q _ _ H h.2 (Same.refl H) (.int _)⟩
  · exact h.elim
def fSub (x y : D) (Q : D → Prop) : Prop := match x, y with
  | .int i, .int j => Q (.int (i - j))
  | _, _ => False
theorem link_sub : LinkOp X.K (rI0 fun i j => .int (i - j)) fSub := by
  intro fo ls H x y dx dy P Q ht rx ry h q
  unfold fSub at h
  split at h
  · exact ⟨_, _, rx.isInt, ry.isInt, q _ _ H h (Same.refl H) (.int _)⟩
  · exact h.elim
theorem op_mulD : OpR X (binaryOp .Mult) (rI IntMulOk fun i j => .int (i * j)) := opI fun _ _ _ _ _ _ _ hc q => mul_int q hc
def CPowD (i j : Int) : Prop := 0 ≤ j ∧ (Builtin.Int.intBits i : Int) * j ≤ 2 ^ 27
theorem op_powD : OpR X (binaryOp .Pow) (rI CPowD fun i j => .int (i ^ j.toNat)) := opI fun _ _ _ _ _ _ _ hc q => pow_int hc.1 hc.2 q
abbrev fMul := fI IntMulOk fun i j => i * j
abbrev fDiv := fI CDivW fun i j => i / j
abbrev fMod := fI (fun _ j => 0 < j) fun i j => i % j
abbrev fPow := fI CPowD fun i j => i ^ j.toNat
variable {a b e : Expr} {es : List Expr} {ba bb : Bool} {ma mb : TM} {la : LM} {pos p : Pos} {x : Str}
theorem de_add (ha : DE X W a ba ma) (hb : DE X W b bb mb) : DE X W (.BinOp a .Add b pos) false (mBin fAdd ma mb) := de_op op_addD link_add ha hb
theorem de_sub (ha : DE X W a ba ma) (hb : DE X W b bb mb) : DE X W (.BinOp a .Sub b pos) false (mBin fSub ma mb) := de_op op_sub link_sub ha hb
theorem de_mul (ha : DE X W a ba ma) (hb : DE X W b bb mb) : DE X W (.BinOp a .Mult b pos) false (mBin fMul ma mb) := de_op op_mulD link_I ha hb
theorem de_div (ha : DE X W a ba ma) (hb : DE X W b bb mb) : DE X W (.BinOp a .FloorDiv b pos) false (mBin fDiv ma mb) := de_op op_fdivW link_I ha hb
theorem de_mod (ha : DE X W a ba ma) (hb : DE X W b bb mb) : DE X W (.BinOp a .Mod b pos) false (mBin fMod ma mb) := de_op op_mod link_I ha hb
theorem de_pow (ha : DE X W a ba ma) (hb : DE X W b bb mb) : DE X W (.BinOp a .Pow b pos) false (mBin fPow ma mb) := de_op op_powD link_I ha hb
def mNeg (ma : TM) : TM := fun δ Q E => ma δ (fun d => ∃ i, d = .int i ∧ Q (.int (-i))) E
theorem de_neg (ha : DE X W a ba ma) : DE X W (.UnaryOp .USub a pos) false (mNeg ma) :=
  PE.imp (pe_un un_neg ha) fun σ H Q ⟨F, own, δ, P, EK, A, m, q⟩ => ⟨F, own, δ, _, EK, A, m, fun d v H' ⟨i, ed, p⟩ s r => by
    subst ed
    exact ⟨i, r.isInt, q _ _ H' p s (.cl (.int _))⟩⟩
/-! ### comparisons -/
def fCmp (g : Int → Int → Bool) (h : List Nat → List Nat → Bool) (x y : D) (Q : Bool → Prop) : Prop := match x, y with
  | .int i, .int j => Q (g i j)
  | .str a, .str b => Q (h a.cps.toList b.cps.toList)
  | _, _ => False
theorem link_cmp {g : Int → Int → Bool} {h : List Nat → List Nat → Bool} : LinkCmp X.K (fun x y H Q => rI0 (fun i j => .bl (g i j)) x y H Q ∨ ∃ i j, x = V.str i ∧ y = V.str j ∧ Q (V.bl (h i.cps.toList j.cps.toList)) H) (fCmp g h) := by
  intro fo ls H x y dx dy P Q rx ry hh q
  unfold fCmp at hh
  split at hh
  · exact .inl ⟨_, _, rx.isInt, ry.isInt, q _ hh⟩
  · exact .inr ⟨_, _, rx.isStr, ry.isStr, q _ hh⟩
  · exact hh.elim
abbrev fLt := fCmp (fun i j => decide (i < j)) fun i j => decide (i < j)
abbrev fLe := fCmp (fun i j => decide (i ≤ j)) fun i j => !decide (j < i)
abbrev fGt := fCmp (fun i j => decide (j < i)) fun i j => decide (j < i)
abbrev fGe := fCmp (fun i j => decide (j ≤ i)) fun i j => !decide (i < j)
theorem op_ltD : OpR X (compareOp .Lt) (fun x y H Q => rI0 (fun i j => .bl (decide (i < j))) x y H Q ∨ ∃ i j, x = V.str i ∧ y = V.str j ∧ Q (V.bl (decide (i.cps.toList < j.cps.toList))) H) := op_lt.or op_lt_str
theorem op_leD : OpR X (compareOp .LtE) (fun x y H Q => rI0 (fun i j => .bl (decide (i ≤ j))) x y H Q ∨ ∃ i j, x = V.str i ∧ y = V.str j ∧ Q (V.bl (!decide (j.cps.toList < i.cps.toList))) H) := op_le.or op_le_str
theorem op_gtD : OpR X (compareOp .Gt) (fun x y H Q => rI0 (fun i j => .bl (decide (j < i))) x y H Q ∨ ∃ i j, x = V.str i ∧ y = V.str j ∧ Q (V.bl (decide (j.cps.toList < i.cps.toList))) H) := op_gt.or op_gt_str
theorem op_geD : OpR X (compareOp .GtE) (fun x y H Q => rI0 (fun i j => .bl (decide (j ≤ i))) x y H Q ∨ ∃ i j, x = V.str i ∧ y = V.str j ∧ Q (V.bl (!decide (i.cps.toList < j.cps.toList))) H) := op_ge.or op_ge_str
theorem link_lt : LinkCmp X.K (fun x y H Q => rI0 (fun i j => .bl (decide (i < j))) x y H Q ∨ ∃ i j, x = V.str i ∧ y = V.str j ∧ Q (V.bl (decide (i.cps.toList < j.cps.toList))) H) fLt := link_cmp
theorem link_le : LinkCmp X.K (fun x y H Q => rI0 (fun i j => .bl (decide (i ≤ j))) x y H Q ∨ ∃ i j, x = V.str i ∧ y = V.str j ∧ Q (V.bl (!decide (j.cps.toList < i.cps.toList))) H) fLe := link_cmp (h := fun i j => !decide (j < i))
theorem link_gt : LinkCmp X.K (fun x y H Q => rI0 (fun i j => .bl (decide (j < i))) x y H Q ∨ ∃ i j, x = V.str i ∧ y = V.str j ∧ Q (V.bl (decide (j.cps.toList < i.cps.toList))) H) fGt := link_cmp (g := fun i j => decide (j < i)) (h := fun i j => decide (j < i))
theorem link_ge : LinkCmp X.K (fun x y H Q => rI0 (fun i j => .bl (decide (j ≤ i))) x y H Q ∨ ∃ i j, x = V.str i ∧ y = V.str j ∧ Q (V.bl (!decide (i.cps.toList < j.cps.toList))) H) fGe := link_cmp (g := fun i j => decide (j ≤ i)) (h := fun i j => !decide (i < j))
theorem link_is : LinkCmp X.K (fun x y H Q => y = .non ∧ Q (.bl (decide (x = .non))) H) fIs := by
  intro fo ls H x y dx dy P Q rx ry h q
  obtain ⟨rfl, h⟩ := h
  exact ⟨ry.non, by rw [rx.isNone]; exact q _ h⟩
/-- is, is not of bools -/
def fIsB (x y : D) (Q : Bool → Prop) : Prop := match x, y with
  | .bool i, .bool j => Q (decide (i = j))
  | _, _ => False
def fIsNotB (x y : D) (Q : Bool → Prop) : Prop := match x, y with
  | .bool i, .bool j => Q (!decide (i = j))
  | _, _ => False
theorem link_isB : LinkCmp X.K rIsB fIsB := by
  intro fo ls H x y dx dy P Q rx ry h q
  unfold fIsB at h
  split at h
  · exact ⟨_, _, rx.isBool, ry.isBool, q _ h⟩
  · exact h.elim
/-! ### data that can be compared and shown -/
def keyPy : Key → PyData
  | .inl i => .int i
  | .inr x => .str x
mutual
def D.py : D → PyData
  | .none => .none
  | .bool b => .bool b
  | .int i => .int i
  | .str s => .str s
  | .list xs => .list (D.pys xs)
  | .tup xs => .tuple (D.pys xs)
  | .dict kvs => .dict (D.pyKs kvs)
  | .obj _ _ => .none
  | .dice => .none
  | .script _ => .none
  | .tdict _ => .none
  | .opq _ _ => .none
  | .ty _ => .none
  | .fn _ => .none
  | .exc _ _ _ _ _ => .none
  | .sob _ _ => .none
def D.pys : List D → List PyData
  | [] => []
  | x :: xs => D.py x :: D.pys xs
def D.pyKs : List (Key × D) → List (PyData × PyData)
  | [] => []
  | (k, x) :: xs => (keyPy k, D.py x) :: D.pyKs xs
end
mutual
def D.isPy : D → Bool
  | .none => true
  | .bool _ => true
  | .int _ => true
  | .str _ => true
  | .list xs => D.arePy xs
  | .tup xs => D.arePy xs
  | .dict kvs => D.areKs kvs
  | .obj _ _ => false
  | .dice => false
  | .script _ => false
  | .tdict _ => false
  | .opq _ _ => false
  | .ty _ => false
  | .fn _ => false
  | .exc _ _ _ _ _ => false
  | .sob _ _ => false
def D.arePy : List D → Bool
  | [] => true
  | x :: xs => D.isPy x && D.arePy xs
def D.areKs : List (Key × D) → Bool
  | [] => true
  | (_, x) :: xs => D.isPy x && D.areKs xs
end
mutual
theorem Rep.dp {K : PySem.W.Frag} {H : Hp} : ∀ {v : V} {d : D}, Rep K H v d → d.isPy = true → d.py.canLay0 = true → Dp K H v d.py
  | _, _, .non, _, _ => .non
  | _, _, .bool b, _, _ => .bl b
  | _, _, .int i, _, _ => .int i
  | _, _, .str x, _, _ => .str x
  | _, _, .list h _ r, p, q => .lst (.of h) (Reps.dp r (by simpa [D.isPy] using p) (by simpa [D.py, PyData.canLay0] using q))
  | _, _, .tup h _ r, p, q => .tup h (Reps.dp r (by simpa [D.isPy] using p) (by simpa [D.py, PyData.canLay0] using q))
  | _, _, .dict _ _ _, _, q => by simp [D.py, PyData.canLay0] at q
  | _, _, .obj _ _ _, p, _ => by simp [D.isPy] at p
  | _, _, .dice _, p, _ => by simp [D.isPy] at p
  | _, _, .script _ _, p, _ => by simp [D.isPy] at p
  | _, _, .tdict _ _ _ _, p, _ => by simp [D.isPy] at p
  | _, _, .opq _, p, _ => by simp [D.isPy] at p
  | _, _, .ty _, p, _ => by simp [D.isPy] at p
  | _, _, .fn _, p, _ => by simp [D.isPy] at p
  | _, _, .exc _ _ _, p, _ => by simp [D.isPy] at p
  | _, _, .sob _ _ _ _, p, _ => by simp [D.isPy] at p
theorem Reps.dp {K : PySem.W.Frag} {H : Hp} : ∀ {vs : List V} {ds : List D}, Reps K H vs ds → D.arePy ds = true → PyData.canLayAll0 (D.pys ds) = true → DpAll K H vs (D.pys ds)
  | _, _, .nil, _, _ => .nil
  | _, _, .cons r t, p, q => by
    have p' : _ = true ∧ _ = true := (by simpa [D.arePy] using p : D.isPy _ = true ∧ D.arePy _ = true)
    have q' : _ = true ∧ _ = true := (by simpa [D.pys, PyData.canLayAll0] using q : PyData.canLay0 (D.py _) = true ∧ PyData.canLayAll0 (D.pys _) = true)
    exact .cons (Rep.dp r p'.1 q'.1) (Reps.dp t p'.2 q'.2)
end
/-! what stands in the heap, read as data -/
section
variable {X : Cx} {pins : List (Addr × Obj)} {σ : L2.St} {H : Hp} {s : Shared}
theorem RepKs.keys0 {K : PySem.W.Frag} {H : Hp} : ∀ {vs : List (Key × V)} {ds : List (Key × D)}, RepKs K H vs ds → vs.map (·.1) = ds.map (·.1)
  | _, _, .nil => rfl
  | _, _, .cons _ r => by simp only [List.map_cons, RepKs.keys0 r]
end
def D.fine (d : D) : Bool := d.isPy && SeqAt.shaped d.py
def eqD (x y : D) : Bool := PyData.eqv x.py y.py
def fEq (x y : D) (Q : Bool → Prop) : Prop := x.fine = true ∧ y.fine = true ∧ Q (eqD x y)
def fNe (x y : D) (Q : Bool → Prop) : Prop := x.fine = true ∧ y.fine = true ∧ Q (!eqD x y)
theorem fine_and {d : D} (h : d.fine = true) : d.isPy = true ∧ SeqAt.shaped d.py = true := by simpa [D.fine] using h
theorem fine_lay {d : D} (h : d.fine = true) : d.py.canLay0 = true := by
  have := (fine_and h).2
  unfold SeqAt.shaped at this
  exact (Bool.and_eq_true_iff.mp this).1
theorem fine_nodic {d : D} (h : d.fine = true) : isDic d = false := by
  have := fine_lay h
  have hp := (fine_and h).1
  cases d with
  | dict _ => simp [D.py, PyData.canLay0] at this
  | tdict _ => simp [D.isPy] at hp
  | _ => rfl
theorem RV.dpf {K : PySem.W.Frag} {fo ls : List Addr} {H : Hp} {b : Bool} {v : V} {d : D} (r : RV K fo ls H b v d) (h : d.fine = true) : Dp K H v d.py := (r.rep (fine_nodic h)).dp (fine_and h).1 (fine_lay h)
theorem link_eq : LinkCmp X.K (rEqD X.K) fEq := by
  intro fo ls H x y dx dy P Q rx ry ⟨h1, h2, h⟩ q
  exact ⟨_, _, rx.dpf h1, ry.dpf h2, (fine_and h1).2, (fine_and h2).2, q _ h⟩
theorem link_ne : LinkCmp X.K (rNeD X.K) fNe := by
  intro fo ls H x y dx dy P Q rx ry ⟨h1, h2, h⟩ q
  exact ⟨_, _, rx.dpf h1, ry.dpf h2, (fine_and h1).2, (fine_and h2).2, q _ h⟩
/-- in: a sign in a text, an item in a list or a tuple -/
def inD (x : D) (ds : List D) : Bool := ds.any fun z => eqD z x
/-! ### built-ins -/
def fLen (ds : List D) (Q : D → Prop) : Prop := match ds with
  | [.list xs] => Q (.int xs.length)
  | [.tup xs] => Q (.int xs.length)
  | [.script ns] => Q (.int ns.length)
  | [.str z] => z.length ≤ sizeLine ∧ Q (.int z.length)
  | _ => False
theorem link_len : LinkB X.K (fun xs H Q => ∃ x n, xs = [x] ∧ LenV X.K x H n ∧ Q (.int n) H) fLen := by
  intro fo ls H vs ds P Q ht r h q
  unfold fLen at h
  split at h
  · obtain ⟨v, rfl, rr⟩ := r.one
    obtain ⟨a, xs, rfl, h1, h2, h3⟩ := rr.list
    exact ⟨_, _, rfl, .inl ⟨xs, .of h1, h3.length.symm⟩, q _ _ H h (Same.refl H) (.int _)⟩
  · obtain ⟨v, rfl, rr⟩ := r.one
    obtain ⟨a, xs, rfl, h1, h2, h3⟩ := rr.tup
    exact ⟨_, _, rfl, .inr ⟨xs, h1, h3.length.symm⟩, q _ _ H h (Same.refl H) (.int _)⟩
  · obtain ⟨v, rfl, rr⟩ := r.one
    cases rr with
    | cl r =>
      cases r with
      | script h1 h2 => exact ⟨_, _, rfl, .inl ⟨_, sub_le.seq h1, by rw [List.length_map]⟩, q _ _ H h (Same.refl H) (.int _)⟩
  · obtain ⟨v, rfl, rr⟩ := r.one
    rw [rr.isStr]
    exact ⟨_, _, rfl, ⟨h.1, rfl⟩, q _ _ H h.2 (Same.refl H) (.int _)⟩
  · exact h.elim
def fAbs (ds : List D) (Q : D → Prop) : Prop := ∃ i : Int, ds = [.int i] ∧ Q (.int (if i < 0 then -i else i))
theorem link_abs : LinkB X.K (fun xs H Q => ∃ i, xs = [V.int i] ∧ Q (V.int (if i < 0 then -i else i)) H) fAbs := by
  intro fo ls H vs ds P Q ht r ⟨i, e, h⟩ q
  subst e
  obtain ⟨v, rfl, rr⟩ := r.one
  exact ⟨i, by rw [rr.isInt], q _ _ H h (Same.refl H) (.int _)⟩
def fMax2 (ds : List D) (Q : D → Prop) : Prop := ∃ i j : Int, ds = [.int i, .int j] ∧ Q (.int (if j > i then j else i))
theorem link_max2 : LinkB X.K (fun xs H Q => ∃ i j, xs = [V.int i, V.int j] ∧ Q (V.int (if j > i then j else i)) H) fMax2 := by
  intro fo ls H vs ds P Q ht r ⟨i, j, e, h⟩ q
  subst e
  obtain ⟨v, v', rfl, r1, r2⟩ := r.two
  exact ⟨i, j, by rw [r1.isInt, r2.isInt], q _ _ H h (Same.refl H) (.int _)⟩
def fMin2 (ds : List D) (Q : D → Prop) : Prop := ∃ i j : Int, ds = [.int i, .int j] ∧ Q (.int (if j < i then j else i))
theorem link_min2 : LinkB X.K (fun xs H Q => ∃ i j, xs = [V.int i, V.int j] ∧ Q (V.int (if j < i then j else i)) H) fMin2 := by
  intro fo ls H vs ds P Q ht r ⟨i, j, e, h⟩ q
  subst e
  obtain ⟨v, v', rfl, r1, r2⟩ := r.two
  exact ⟨i, j, by rw [r1.isInt, r2.isInt], q _ _ H h (Same.refl H) (.int _)⟩
def fInt (ds : List D) (Q : D → Prop) : Prop := match ds with
  | [.int i] => Q (.int i)
  | [.bool k] => Q (.int (if k then 1 else 0))
  | _ => False
theorem link_int : LinkB X.K (fun xs H Q => (∃ i, xs = [V.int i] ∧ Q (.int i) H) ∨ ∃ k, xs = [V.bl k] ∧ Q (V.int (if k then 1 else 0)) H) fInt := by
  intro fo ls H vs ds P Q ht r h q
  unfold fInt at h
  split at h
  · obtain ⟨v, rfl, rr⟩ := r.one
    exact .inl ⟨_, by rw [rr.isInt], q _ _ H h (Same.refl H) (.int _)⟩
  · obtain ⟨v, rfl, rr⟩ := r.one
    exact .inr ⟨_, by rw [rr.isBool], q _ _ H h (Same.refl H) (.int _)⟩
  · exact h.elim
def fStr (ds : List D) (Q : D → Prop) : Prop := ∃ i : Int, ds = [.int i] ∧ i.natAbs.log2 < 1920 ∧ Q (.str (toString i))
def fSum (ds : List D) (Q : D → Prop) : Prop := ∃ ns : List Int, ds = [.list (ns.map .int)] ∧ Q (.int ns.sum)
theorem link_sum : LinkB X.K (rSum X.K) fSum := by
  intro fo ls H vs ds P Q ht r ⟨ns, e, h⟩ q
  subst e
  obtain ⟨v, rfl, rr⟩ := r.one
  obtain ⟨a, xs, rfl, h1, h2, h3⟩ := rr.list
  exact ⟨a, ns, rfl, by rw [← h3.of_ints]; exact .of h1, q _ _ H h (Same.refl H) (.int _)⟩
def fAll (ds : List D) (Q : D → Prop) : Prop := ∃ ns : List Bool, ds = [.list (ns.map .bool)] ∧ Q (.bool (ns.all id))
theorem link_all : LinkB X.K (rAll X.K) fAll := by
  intro fo ls H vs ds P Q ht r ⟨ns, e, h⟩ q
  subst e
  obtain ⟨v, rfl, rr⟩ := r.one
  obtain ⟨a, xs, rfl, h1, h2, h3⟩ := rr.list
  exact ⟨a, ns, rfl, by rw [← h3.of_bools]; exact .of h1, q _ _ H h (Same.refl H) (.bool _)⟩
/-- tuple(xs), list(xs) -/
def fTuple (ds : List D) (Q : D → Prop) : Prop := match ds with
  | [.list xs] => Q (.tup xs)
  | [.tup xs] => Q (.tup xs)
  | _ => False
theorem link_tuple : LinkB X.K (fun xs H Q => ∃ p ys, xs = [V.ref p] ∧ ((SqL X.K H p ys ∧ ∀ l, H l = none → Q (V.ref l) (upd H l (.tup ys))) ∨ (SqT X.K H p ys ∧ Q (.ref p) H))) fTuple := by
  intro fo ls H vs ds P Q ht r h q
  unfold fTuple at h
  split at h
  · obtain ⟨v, rfl, rr⟩ := r.one
    obtain ⟨a, xs, rfl, h1, h2, h3⟩ := rr.list
    exact ⟨a, xs, rfl, .inl ⟨.of h1, fun l hl => q _ _ _ h (same_upd hl) (new_tup ht hl h2 h3)⟩⟩
  · obtain ⟨v, rfl, rr⟩ := r.one
    obtain ⟨a, xs, e, h1, h2, h3⟩ := rr.tup
    subst e
    cases rr with
    | cl r => exact ⟨a, xs, rfl, .inr ⟨h1, q _ _ H h (Same.refl H) r⟩⟩
  · exact h.elim
def fList (ds : List D) (Q : D → Prop) : Prop := match ds with
  | [.list xs] => Q (.list xs)
  | [.tup xs] => Q (.list xs)
  | _ => False
theorem link_list : LinkF X.K (fun xs H Q => ∃ p ys, xs = [V.ref p] ∧ (SqL X.K H p ys ∨ SqT X.K H p ys) ∧ ∀ l, H l = none → Q (V.ref l) (upd H l (.lst ys))) fList := by
  intro fo ls H vs ds P Q ht r h q
  unfold fList at h
  split at h
  · obtain ⟨v, rfl, rr⟩ := r.one
    obtain ⟨a, xs, rfl, h1, h2, h3⟩ := rr.list
    exact ⟨a, xs, rfl, .inl (.of h1), fun l hl => q _ _ _ h hl (same_upd hl) (.l upd_same h2 (h3.mono (sub_fresh hl (same_upd hl))))⟩
  · obtain ⟨v, rfl, rr⟩ := r.one
    obtain ⟨a, xs, rfl, h1, h2, h3⟩ := rr.tup
    exact ⟨a, xs, rfl, .inr h1, fun l hl => q _ _ _ h hl (same_upd hl) (.l upd_same h2 (h3.mono (sub_fresh hl (same_upd hl))))⟩
  · exact h.elim
end
end DL
set_option Elab.async false
set_option linter.all false
set_option maxRecDepth 100000
set_option maxHeartbeats 4000000
/-! DL7: in, repr, isinstance, join, sorted, slices; the dice; a list's items stored. -/
namespace DL
open PySem PySem.Spec PyProof.Rows L2
variable [TabsC]
theorem bt_len : bootBuiltins "len" = some (.builtin "len") := by decide +kernel
theorem bt_abs : bootBuiltins "abs" = some (.builtin "abs") := by decide +kernel
theorem bt_max : bootBuiltins "max" = some (.builtin "max") := by decide +kernel
theorem bt_min : bootBuiltins "min" = some (.builtin "min") := by decide +kernel
theorem bt_sum : bootBuiltins "sum" = some (.builtin "sum") := by decide +kernel
theorem bt_all : bootBuiltins "all" = some (.builtin "all") := by decide +kernel
theorem bt_sorted : bootBuiltins "sorted" = some (.builtin "sorted") := by decide +kernel
theorem bt_int : bootBuiltins "int" = some (.type "int") := by decide +kernel
theorem bt_str : bootBuiltins "str" = some (.type "str") := by decide +kernel
theorem bt_bool : bootBuiltins "bool" = some (.type "bool") := by decide +kernel
theorem bt_tuple : bootBuiltins "tuple" = some (.type "tuple") := by decide +kernel
theorem bt_list : bootBuiltins "list" = some (.type "list") := by decide +kernel
theorem bt_dict : bootBuiltins "dict" = some (.type "dict") := by decide +kernel
section
variable {X : Cx} {W : WX} {a b c e o : Expr} {es : List Expr} {ba bb : Bool} {ma mb : TM} {la : LM} {pos p : Pos} {x : Str}
/-! ### in -/
def rInX (K : PySem.W.Frag) (neg : Bool) : R2 := fun x y H Q => (∃ (c : Nat) (z : Str), x = .str ⟨#[c]⟩ ∧ y = .str z ∧ Q (.bl (neg ^^ decide (c ∈ z.cps.toList))) H) ∨ ((∃ d ds, Dp K H x d ∧ Dp K H y (.list ds) ∧ SeqAt.shaped d = true ∧ SeqAt.shaped (.list ds) = true ∧ Q (.bl (neg ^^ ds.any fun z => PyData.eqv z d)) H) ∨
  ∃ p xs, y = .ref p ∧ (SqL K H p xs ∨ SqT K H p xs) ∧ flatV x = true ∧ xs.all flatV = true ∧ Q (.bl (neg ^^ inV x xs)) H)
theorem op_inX (hu : X.A.units + 65 < cLine) : OpR X (compareOp .In) (rInX X.K false) := by
  intro pins s σ H x y v u Q I rx ry h
  rcases h with ⟨c, z, h1, h2, q⟩ | ⟨d, ds, h1, h2, h3, h4, q⟩ | ⟨p, xs, h1, h2, h3, h4, q⟩
  · exact op_in_sign pins s σ H x y v u Q I rx ry ⟨c, z, h1, h2, by simpa using q⟩
  · exact op_inD hu pins s σ H x y v u Q I rx ry ⟨d, ds, h1, h2, h3, h4, by simpa using q⟩
  · exact op_in_seq pins s σ H x y v u Q I rx ry ⟨p, xs, h1, h2, h3, h4, by simpa using q⟩
def fInX (neg : Bool) (x y : D) (Q : Bool → Prop) : Prop := match y with
  | .str z => ∃ c, x = .str ⟨#[c]⟩ ∧ Q (neg ^^ decide (c ∈ z.cps.toList))
  | .list ds => x.fine = true ∧ (D.list ds).fine = true ∧ Q (neg ^^ inD x ds)
  | .tup ds => ∃ (i : Int) (ns : List Int), x = .int i ∧ ds = ns.map .int ∧ Q (neg ^^ decide (i ∈ ns))
  | _ => False
theorem inV_cons (x y : V) (xs : List V) : inV x (y :: xs) = (eqV y x || inV x xs) := by unfold inV; rw [List.any_cons]
/-! ### repr -/
def fRepr (ds : List D) (Q : D → Prop) : Prop := ∃ d, ds = [d] ∧ d.isPy = true ∧ d.py.showable = true ∧ d.py.depth ≤ 60 ∧ d.py.shown.length ≤ sizeLine ∧ Q (.str d.py.shown)
/-- repr of what is plain -/
def mRepr (ma : TM) : TM := fun δ Q E => ma δ (fun d => fRepr [d] Q) E
/-! ### isinstance -/
def D.tyn : D → Option String
  | .none => some "NoneType"
  | .bool _ => some "bool"
  | .int _ => some "int"
  | .str _ => some "str"
  | .list _ => some "list"
  | .tup _ => some "tuple"
  | .dict _ => some "dict"
  | _ => Option.none
theorem tyx_of {K : PySem.W.Frag} {H : Hp} {v : V} {d : D} {t : String} (r : Rep K H v d) (h : d.tyn = some t) : TyX K H v (.type t) := by
  cases r with
  | non => cases h; exact .base .non
  | bool b => cases h; exact .base (.bl b)
  | int i => cases h; exact .base (.int i)
  | str x => cases h; exact .base (.str x)
  | list h1 _ _ => cases h; exact .base (.lst h1)
  | tup h1 _ _ =>
    cases h
    rcases h1 with (h1 | ⟨o, h1⟩) | ⟨o, its, n, h1, h2, _⟩
    · exact .base (.tup h1)
    · exact .fTuple h1
    · exact .kTuple h1 h2
  | dict h1 _ _ =>
    cases h
    exact .fDict h1
  | dice _ => cases h
  | obj _ _ _ => cases h
  | script _ _ => cases h
  | tdict _ _ _ _ => cases h
  | opq _ => cases h
  | ty _ => cases h
  | fn _ => cases h
  | exc _ _ _ => cases h
  | sob _ _ _ _ => cases h
theorem tyx_rv {K : PySem.W.Frag} {fo ls : List Addr} {H : Hp} {b : Bool} {v : V} {d : D} {t : String} (r : RV K fo ls H b v d) (h : d.tyn = some t) : TyX K H v (.type t) := by
  cases r with
  | cl r => exact tyx_of (r.mono sub_le) h
  | ml n a b c => cases h; exact .base (.lst a)
  | md n a b c => cases h; exact .base (.dK a)
  | mt n a b c => cases h
  | mo n a b c => cases h
/-! ### texts -/
def mJoin (ma mb : TM) : TM := fun δ Q E => ma δ (fun d => ∃ z, d = .str z ∧ mb δ (fun d' => ∃ ys : List Str, (d' = .list (ys.map .str) ∨ d' = .tup (ys.map .str)) ∧ (ys.map (·.length)).sum + ys.length * z.length ≤ 16777216 ∧ Q (.str (Txt.join z ys))) E) E
/-! ### sorted, of ints -/
def fSortI (ds : List D) (Q : D → Prop) : Prop := ∃ ns : List Int, ds = [.list (ns.map .int)] ∧ ∀ ms : List Int, ms.Perm ns → ms.Pairwise (· ≤ ·) → Q (.list (ms.map .int))
theorem link_sortI : LinkF X.K (rSortedI X.K) fSortI := by
  intro fo ls H vs ds P Q ht r ⟨ns, e, h⟩ q
  subst e
  obtain ⟨v, rfl, rr⟩ := r.one
  obtain ⟨a, xs, rfl, h1, h2, h3⟩ := rr.list
  have ex := h3.of_ints
  subst ex
  refine ⟨a, ns, rfl, .of h1, fun ms p hp hs hn => q _ _ _ (h ms hp hs) hn (same_upd hn) (.l upd_same ?_ (Reps.ints ms))⟩
  rw [List.length_map] at h2 ⊢
  rw [hp.length_eq]
  exact h2
/-! ### the dice -/
def mDice (ma : TM) : TM := fun δ Q E => ma δ (fun d => (∃ i j k : Int, d = .list [.int i, .int j, .int k]) ∧ Q .dice) E
theorem de_dice (h : DF X W e ma) : DE X W e false (mDice ma) := by
  refine ⟨fun pins s σ H Q I ⟨F, own, δ, P, EK, A, m, q⟩ => ?_⟩
  refine thn (h.run pins s σ H (fun v H1 => ∃ p i j k, v = .ref p ∧ H p = none ∧ Same H H1 ∧ H1 p = some (.lst [.int i, .int j, .int k]) ∧ P .dice) I ⟨F, own, δ, _, EK, A, m, fun d p H1 ⟨⟨i, j, k, ed⟩, pd⟩ hp s1 r1 => ?_⟩) fun u s1 ⟨v, H1, I1, rv, p, i, j, k, ev, hp, s01, h1, pd⟩ => ?_
  · subst ed
    cases r1 with
    | l h1 _ r1 =>
      have := Reps.of_ints (ns := [i, j, k]) r1
      subst this
      exact ⟨p, i, j, k, rfl, hp, s1, h1, pd⟩
  · subst ev
    obtain ⟨_, its, n, r, e⟩ := I1.hok p _ h1
    obtain ⟨t1, t2, t3, rfl⟩ : ∃ t1 t2 t3, its = [.int i t1, .int j t2, .int k t3] := by
      cases r with
      | cons a r => cases r with
        | cons b r => cases r with
          | cons c r =>
            cases r
            obtain ⟨t1, rfl⟩ := a
            obtain ⟨t2, rfl⟩ := b
            obtain ⟨t3, rfl⟩ := c
            exact ⟨t1, t2, t3, rfl⟩
    have J := Inv.retrack (o := diceO p) I1 (by rw [h1]; trivial) ⟨⟨i, j, k, t1, t2, t3, n, e⟩, ⟨_, e⟩, fun h1 h2 ⟨i, j, k, t, u, w, n, z⟩ f => ⟨i, j, k, t, u, w, n, f _ z⟩⟩
    have sn : Same H (upd H1 p (diceO p)) := Same.put s01 hp h1
    refine ⟨.ref p, _, J, rv, q .dice (.ref p) _ pd sn (.cl (.dice ?_))⟩
    rw [sub_out (new_out A hp)]
    exact upd_same
/-- within the roll: the dice as a list -/
theorem pss_dice {sts : List Stmt} {t : TS} (h : PSs X sts t) : PSs X sts (fun D σ H => ∃ q, H q = some (diceO q) ∧ ∀ i j k : Int, t { nx := fun _ _ => False, rt := fun v H' => ∃ i j k : Int, H' q = some (.lst [.int i, .int j, .int k]) ∧ D.rt v (upd H' q (diceO q)) } σ (upd H q (.lst [.int i, .int j, .int k]))) := by
  refine ⟨fun pins s σ H D I ⟨q, hq, ht⟩ => ?_⟩
  obtain ⟨⟨i, j, k, t1, t2, t3, n, e⟩, _, _⟩ := I.hok q _ hq
  have J : Inv X pins σ (upd H q (.lst [.int i, .int j, .int k])) s := Inv.retrack I (by rw [hq]; trivial) ⟨(by show 3 ≤ sizeLine; rw [sizeLine_eq]; decide), [.int i t1, .int j t2, .int k t3], n, .cons ⟨_, rfl⟩ (.cons ⟨_, rfl⟩ (.cons ⟨_, rfl⟩ .nil)), e⟩
  refine thn (h.run pins s σ _ _ J (ht i j k)) fun fl s1 hs => ?_
  cases fl with
  | next =>
    obtain ⟨_, _, _, z⟩ := hs
    exact z.elim
  | brk =>
    obtain ⟨_, _, _, z⟩ := hs
    exact z.elim
  | cont =>
    obtain ⟨_, _, _, z⟩ := hs
    exact z.elim
  | ret u =>
    obtain ⟨v, σ', H', I', rv, i', j', k', hq', hd⟩ := hs
    obtain ⟨_, its, n', r, e'⟩ := I'.hok q _ hq'
    obtain ⟨u1, u2, u3, rfl⟩ : ∃ u1 u2 u3, its = [.int i' u1, .int j' u2, .int k' u3] := by
      cases r with
      | cons a r => cases r with
        | cons b r => cases r with
          | cons c r =>
            cases r
            obtain ⟨t1, rfl⟩ := a
            obtain ⟨t2, rfl⟩ := b
            obtain ⟨t3, rfl⟩ := c
            exact ⟨t1, t2, t3, rfl⟩
    have J' := Inv.retrack (o := diceO q) I' (by rw [hq']; trivial) ⟨⟨i', j', k', u1, u2, u3, n', e'⟩, ⟨_, e'⟩, fun h1 h2 ⟨i, j, k, t, u, w, n, z⟩ f => ⟨i, j, k, t, u, w, n, f _ z⟩⟩
    exact ⟨v, σ', _, J', rv, hd⟩
def mRoll : FM := fun ds Q _ => ∃ n : Int, ds = [.dice, .int n] ∧ 0 < n ∧ n < 1073741824 ∧ ∀ r : Int, 0 ≤ r → r < n → Q (.int r)
end
end DL
set_option Elab.async false
set_option linter.all false
set_option maxRecDepth 100000
set_option maxHeartbeats 4000000
/-! DL8: the end of a law. -/
namespace DL
open PySem PySem.Spec PyProof.Rows L2
variable [TabsC]
/-- the law's script as data; the law gives True -/
def LawTrue (m : FM) : Prop := ∀ ns : List Int, ns.length ≤ 63 → m [.script ns] (fun d => d = .bool true) NoE
end DL
set_option Elab.async false
set_option linter.all false
set_option maxRecDepth 100000
set_option maxHeartbeats 4000000
/-! DL9: more forms: comprehensions stored, two names at once, displays of dicts, slices, zip, tuple(range). -/
namespace DL
open PySem PySem.Spec PyProof.Rows L2
variable [TabsC]
theorem units65 {A : Around} {k : Nat} (hr : Room k A) : A.units + 65 < cLine := by have := hr.un; omega
section
variable {X : Cx} {W : WX} {a b c e e2 o : Expr} {es : List Expr} {ba bb : Bool} {ma mb : TM} {la : LM} {pos p : Pos} {x y : Str} {k : Nat} {f : Addr} {fd : FuncData} {ps : List Str} {m : FM}
/-! ### name = [..] -/
/-- tf of lists alone -/
def tfl (K : PySem.W.Frag) (W : WX) (m : TM) : TE := fun σ H Q => ∃ (F : Fm) (own : List Addr) (δ : List DV) (P : D → Prop) (EK : Er → Prop), At K W σ H F own δ EK ∧ m δ P EK ∧
  ∀ ds p H', P (.list ds) → H p = none → Same H H' → FV K (p :: (F.ls0 ++ own)) H' p (.list ds) → Q (.ref p) H'
/-- the reading of a comprehension, for whatever follows it -/
theorem lc_reading {tg it : Expr} {own : List (Str × Nat)} {mi : LM} {g : GM} {mt : BM} {me : TM} {σ : L2.St} {H : Hp} {Q : VK} {K : PySem.W.Frag} (h : tfl K W (mComp (own.map (·.2)) mi g mt me) σ H Q) :
    tLc (ti K W ba mi) (tgw K (List.map (fun x : Str × Nat => x.2) own) g) (tb K NoW mt) (tm K NoW false me) (own.map (·.2)) σ H Q := by
  obtain ⟨F, ow, δ, P, EK, A, m, q⟩ := h
  refine ⟨F, ow, δ, _, EK, A, m, fun ds J H1 hds s1 ok => ?_⟩
  intro Dn hD
  have E1 := A.env.grow s1
  have nodn : ∀ (j : Nat) (dj : D), (wipeD δ (own.map (·.2)))[j]? = some (.m dj) → (L2.wipe σ (own.map (·.2)))[j]? ≠ some (some (.ref Dn)) := fun j dj h z => by
    obtain ⟨s, e1, a, e2, ha, _⟩ := (E1.wipe (own.map (·.2))).slot j _ h
    rw [e1] at z; cases z
    cases e2
    obtain ⟨o, q, nn⟩ := E1.trk Dn (List.mem_append_right _ ha)
    rw [hD] at q; cases q
  refine ⟨fun i n H => n = ds.length - i ∧ i ≤ ds.length ∧ Same H1 H ∧ EnvD K F (Dn :: ow) (L2.wipe σ (own.map (·.2))) (wipeD δ (own.map (·.2))) H ∧ ∃ xs acc, H Dn = some (.lst xs) ∧ xs.length ≤ i ∧ Reps K (sub H (F.ls0 ++ (Dn :: ow))) xs acc ∧ compL g mt me (wipeD δ (own.map (·.2))) (ds.drop i) acc P,
    ⟨_, rfl, Nat.zero_le _, same_upd hD, (E1.wipe _).grab hD (same_upd hD) ⟨_, upd_same, plain_of⟩, [], [], upd_same, Nat.le_refl _, .nil, hds⟩, ?_⟩
  rintro i n H2 ⟨rfl, hi2, s2, E2, xs, acc, hx, hl, rx, q2⟩
  have sg : Grow (flo ba H1 (F.ls0 ++ ow)) H2 := flo_le.trans s2.ob
  have sb : Grow (sub H1 (F.ls0 ++ ow)) (sub H2 (F.ls0 ++ (Dn :: ow))) := by
    rw [← sub_congr (H := H2) (mem_swap (ls := F.ls0) (own := ow) (p := Dn))]
    exact sub_fresh hD s2
  by_cases hlt : i < ds.length
  · refine .inr ⟨ok.go i H2 sg hlt, fun H' => Same H1 H' ∧ EnvD K F (Dn :: ow) (L2.wipe σ (own.map (·.2))) (wipeD δ (own.map (·.2))) H' ∧ ∃ xs acc, H' Dn = some (.lst xs) ∧ xs.length ≤ i + 1 ∧ Reps K (sub H' (F.ls0 ++ (Dn :: ow))) xs acc ∧ compL g mt me (wipeD δ (own.map (·.2))) (ds.drop (i + 1)) acc P,
      fun H' ⟨s', E', z⟩ => ⟨_, (by omega), rfl, hlt, s', E', z⟩, fun x H3 y => ?_⟩
    obtain ⟨d, ed, s3, r3⟩ := ok.yld i H2 x H3 (F.ls0 ++ (Dn :: ow)) sg sb E2.trk hlt y
    rw [drop_get ed] at q2
    have hz : xs.length < sizeLine := Nat.lt_of_le_of_lt hl (Nat.lt_of_lt_of_le hlt ok.sz)
    refine ⟨F, Dn :: ow, _, d, _, E2.grow s3, r3, q2, fun σ4 δ4 E4 w4 q4 => ⟨by rw [w4]; exact wipe_wipe, F, Dn :: ow, δ4, _, NoE, ⟨E4, noPass⟩, q4, fun b H5 p5 s5 => ?_⟩⟩
    cases b with
    | false =>
      have p5' : compL g mt me (wipeD δ (own.map (·.2))) (ds.drop (i + 1)) acc P := by simpa using p5
      exact iteF ⟨(s2.trans s3).trans s5, E2.grow (s3.trans s5), xs, acc, s5 _ _ (s3 _ _ hx), Nat.le_succ_of_le hl, rx.mono (sub_same (s3.trans s5)), p5'⟩
    | true =>
      refine iteT ⟨F, Dn :: ow, δ4, _, NoE, ⟨E4.grow s5, noPass⟩, (by simpa using p5), fun yd v H6 p6 s6 r6 => ?_⟩
      have hx6 := s6 _ _ (s5 _ _ (s3 _ _ hx))
      have es : sub (upd H6 Dn (.lst (xs ++ [v]))) (F.ls0 ++ (Dn :: ow)) = sub H6 (F.ls0 ++ (Dn :: ow)) := sub_upd (List.mem_append_right _ List.mem_cons_self)
      have sn : Same H1 (upd H6 Dn (.lst (xs ++ [v]))) := Same.put (((s2.trans s3).trans s5).trans s6) hD hx6
      refine ⟨xs, hx6, hz, sn, (E2.grow ((s3.trans s5).trans s6)).poke List.mem_cons_self hx6 nodn, xs ++ [v], acc ++ [yd], upd_same, ?_, ?_, p6⟩
      · rw [List.length_append, List.length_singleton]; omega
      · rw [es]
        exact (rx.mono (sub_same ((s3.trans s5).trans s6))).append (.cons r6.clean .nil)
  · have e : i = ds.length := by omega
    subst e
    rw [List.drop_length] at q2
    refine .inl ⟨ok.stop _ H2 sg rfl, q _ Dn H2 q2 (s1.free hD) (s1.trans s2) (.l hx (Nat.le_trans hl ok.sz) ?_)⟩
    rw [sub_congr (H := H2) (mem_swap (ls := F.ls0) (own := ow) (p := Dn))]
    exact rx
theorem ds_setLc (i : Nat) {elt tg it : Expr} {ifs : List Expr} {scope : Scope} {own : List (Str × Nat)} {mi : LM} {g : GM} {mt : BM} {me : TM} {py spos : Pos} (hc : X.calm = true) (hN : X.N.Nodup) (hi : DI X W tg it ba mi) (ok : BlkOk X.N X.env.scope scope own)
    (hg : ∀ (s : Shared) (H : Hp) (C : Addr) (cl : List (Str × Addr)) (fp : List Addr), DGw (X.blk s H scope (compEnvC scope cl C X.env) fp) (own.map (·.2)) tg g) (ht : ∀ (s : Shared) (H : Hp) (C : Addr) (cl : List (Str × Addr)) (fp : List Addr), DTs (X.blk s H scope (compEnvC scope cl C X.env) fp) NoW ifs mt)
    (he : ∀ (s : Shared) (H : Hp) (C : Addr) (cl : List (Str × Addr)) (fp : List Addr), DE (X.blk s H scope (compEnvC scope cl C X.env) fp) NoW elt false me) (hs : ∀ x, foldedSetIterable it X.env x = pure x := by intro _; rfl)
    (hy : X.N[i]? = some y := by rfl) (hyl : X.env.scope.names.lookup y = some .local := by rfl) (hsw : swapsWith (.ListComp elt [⟨tg, it, ifs, 0⟩] scope pos) (some (.Name y py)) spos.line X.env = pure true := by exact sw_true rfl rfl rfl (by decide +kernel)) :
    DS X W (.Assign [.Name y py] (.ListComp elt [⟨tg, it, ifs, 0⟩] scope pos) spos) (sSet i (mComp (own.map (·.2)) mi g mt me)) :=
  PS.imp (ps_setLc (g := tgw X.K (List.map (fun x : Str × Nat => x.2) own) g) (tt := tb X.K NoW mt) (te := tm X.K NoW false me) hc hN hy hyl hsw hi ok hg ht he hs) fun D σ H ⟨F, ow, δ, k, E, h, L⟩ =>
    lc_reading (tg := tg) (it := it) ⟨F, ow, δ, _, _, L.at E, h, fun d p H' pd hp s r => L.nx _ H' ow _ ((E.grow s).set i (r.clean (new_out (L.at E) hp) rfl)) pd⟩
/-! ### a, b = [], e -/
def sParM (i j : Nat) (ma mb : TM) : SM := fun δ k => ma δ (fun d => mb δ (fun e => k.nx ((δ.set i (.m d)).set j (.v e))) (k.er δ)) (k.er δ)
theorem ds_parm (i j : Nat) {px py pt : Pos} {kt k2 : Nat} {pt2 : Pos} (hc : X.calm = true) (hN : X.N.Nodup) (ha : DF X W a ma) (hb : DE X W b false mb) (hi : X.N[i]? = some x := by rfl) (hj : X.N[j]? = some y := by rfl) (hij : i ≠ j := by decide)
    (hx : X.env.scope.names.lookup x = some .local := by rfl) (hy : X.env.scope.names.lookup y = some .local := by rfl) (hs1 : starEach [a, b] X.env = (false, eval a X.env) :: starEach [b] X.env := by rfl) (hs2 : starEach [b] X.env = (false, eval b X.env) :: starEach [] X.env := by rfl)
    (hw : swappedStores [.Tuple [.Name x px, .Name y py] kt pt] (.Tuple [a, b] k2 pt2) X.env = pure (some [x, y]) := by rfl)
    (hs : swapsWithSole [.Tuple [.Name x px, .Name y py] kt pt] (.Tuple [a, b] k2 pt2) pos.line X.env = pure false := by rfl) : DS X W (.Assign [.Tuple [.Name x px, .Name y py] kt pt] (.Tuple [a, b] k2 pt2) pos) (sParM i j ma mb) :=
  PS.imp (ps_par hc hN hi hj hij hx hy (pa_cons ha (pa_cons hb pa_nil hs2) hs1) hw hs) fun D σ H ⟨F, own, δ, k, E, h, L⟩ => ⟨F, own, δ, _, _, L.at E, h, fun d q H1 p1 hq s1 r1 => by
    have E1 := E.setm i hq s1 r1
    -- the second one is reckoned while the new cell is ours and no name holds it
    have hn : ∃ o, H1 q = some o ∧ Plain o := by
      cases r1 with
      | l z _ _ => exact ⟨_, z, plain_of⟩
      | d z _ _ => exact ⟨_, z, plain_of⟩
      | t z _ _ => exact ⟨_, z, plain_of⟩
      | o _ z _ => exact ⟨_, z, plain_of⟩
    have G := E.grab hq s1 hn
    refine ⟨F, q :: own, δ, _, _, L.at G, p1, fun d2 v2 H2 p2 s2 r2 => ⟨_, _, rfl, L.nx _ H2 (q :: own) _ ?_ p2⟩⟩
    exact (E1.grow s2).set j r2.clean⟩
/-! ### displays of dicts -/
def keyD : Key → D
  | .inl i => .int i
  | .inr x => .str x
def putD (kvs : List (Key × D)) (k : Key) (v : D) : List (Key × D) := if (kvs.any fun kv => decide (kv.1 = k)) = true then kvs.map (fun kv => if kv.1 = k then (kv.1, v) else kv) else kvs ++ [(k, v)]
def mergeD (kvs more : List (Key × D)) : List (Key × D) := more.foldl (fun acc kv => putD acc kv.1 kv.2) kvs
def valD (kvs : List (Key × D)) (k : Key) : Option D := (kvs.find? fun kv => decide (kv.1 = k)).map (·.2)
theorem RepKs.any {K : PySem.W.Frag} {H : Hp} (k : Key) : ∀ {vs : List (Key × V)} {ds : List (Key × D)}, RepKs K H vs ds → (vs.any fun kv => decide (kv.1 = k)) = (ds.any fun kv => decide (kv.1 = k))
  | _, _, .nil => rfl
  | _, _, .cons _ r => by simp only [List.any_cons, RepKs.any k r]
theorem RepKs.repl {K : PySem.W.Frag} {H : Hp} {k : Key} {v : V} {d : D} (rv : Rep K H v d) : ∀ {vs : List (Key × V)} {ds : List (Key × D)}, RepKs K H vs ds → RepKs K H (vs.map fun kv => if kv.1 = k then (kv.1, v) else kv) (ds.map fun kv => if kv.1 = k then (kv.1, d) else kv)
  | _, _, .nil => .nil
  | _, _, @RepKs.cons _ _ k' v' _ d' _ h r => by
    simp only [List.map_cons]
    by_cases e : k' = k
    · rw [if_pos e, if_pos e]
      exact .cons rv (RepKs.repl rv r)
    · rw [if_neg e, if_neg e]
      exact .cons h (RepKs.repl rv r)
theorem RepKs.append {K : PySem.W.Frag} {H : Hp} : ∀ {vs vs' : List (Key × V)} {ds ds' : List (Key × D)}, RepKs K H vs ds → RepKs K H vs' ds' → RepKs K H (vs ++ vs') (ds ++ ds')
  | _, _, _, _, .nil, s => s
  | _, _, _, _, .cons h r, s => .cons h (RepKs.append r s)
theorem RepKs.put {K : PySem.W.Frag} {H : Hp} {k : Key} {v : V} {d : D} {vs : List (Key × V)} {ds : List (Key × D)} (r : RepKs K H vs ds) (rv : Rep K H v d) : RepKs K H (putK vs k v) (putD ds k d) := by
  unfold putK putD
  rw [r.any k]
  split
  · exact r.repl rv
  · exact r.append (.cons rv .nil)
theorem RepKs.merge {K : PySem.W.Frag} {H : Hp} : ∀ {more : List (Key × V)} {mds : List (Key × D)} {vs : List (Key × V)} {ds : List (Key × D)}, RepKs K H more mds → RepKs K H vs ds → RepKs K H (mergeK vs more) (mergeD ds mds)
  | _, _, _, _, .nil, s => s
  | _, _, vs, ds, @RepKs.cons _ _ k v more d mds h r', s => show RepKs K H (mergeK (putK vs k v) more) (mergeD (putD ds k d) mds) from RepKs.merge r' (s.put h)
theorem RepKs.val {K : PySem.W.Frag} {H : Hp} (k : Key) : ∀ {vs : List (Key × V)} {ds : List (Key × D)} {d : D}, RepKs K H vs ds → valD ds k = some d → ∃ v, valV vs k = some v ∧ Rep K H v d
  | _, _, _, .nil, h => by cases h
  | _, _, d, @RepKs.cons _ _ k' v' vs d' ds h r, e => by
    by_cases q : k' = k
    · refine ⟨v', by rw [valV_pos q], ?_⟩
      have : valD ((k', d') :: ds) k = some d' := by simp [valD, List.find?_cons, q]
      rw [this] at e
      cases e
      exact h
    · have : valD ((k', d') :: ds) k = valD ds k := by simp [valD, List.find?_cons, q]
      rw [this] at e
      obtain ⟨v, h1, h2⟩ := RepKs.val k r e
      exact ⟨v, by rw [valV_neg q]; exact h1, h2⟩
theorem RepKs.none {K : PySem.W.Frag} {H : Hp} (k : Key) : ∀ {vs : List (Key × V)} {ds : List (Key × D)}, RepKs K H vs ds → valD ds k = Option.none → valV vs k = Option.none
  | _, _, .nil, _ => rfl
  | _, _, @RepKs.cons _ _ k' v' vs d' ds h r, e => by
    by_cases q : k' = k
    · have : valD ((k', d') :: ds) k = some d' := by simp [valD, List.find?_cons, q]
      rw [this] at e
      cases e
    · have : valD ((k', d') :: ds) k = valD ds k := by simp [valD, List.find?_cons, q]
      rw [this] at e
      rw [valV_neg q]
      exact RepKs.none k r e
def mPairs : List (TM × TM) → List DV → (List (D × D) → Prop) → (Er → Prop) → Prop
  | [], _, P, _ => P []
  | (mk, mv) :: r, δ, P, E => mk δ (fun x => mv δ (fun y => mPairs r δ (fun ps => P ((x, y) :: ps)) E) E) E
def mpNil : List (TM × TM) := []
def mpCons (mk mv : TM) (r : List (TM × TM)) : List (TM × TM) := (mk, mv) :: r
def trsOf (K : PySem.W.Frag) (W : WX) (ms : List (TM × TM)) : List (TE × TE) := ms.map fun q => (tm K W false q.1, tm K W false q.2)
def DPs (X : Cx) (W : WX) (pos : Pos) (keys : List (Option Expr)) (values : List Expr) (ms : List (TM × TM)) : Prop := PPs X pos keys values (trsOf X.K W ms)
theorem dps_nil : DPs X W pos [] [] mpNil := pps_nil
theorem dps_cons {kk v : Expr} {ks : List (Option Expr)} {vs : List Expr} {mk mv : TM} {ms : List (TM × TM)} (hk : DE X W kk false mk) (hv : DE X W v false mv) (hr : DPs X W pos ks vs ms) : DPs X W pos (some kk :: ks) (v :: vs) (mpCons mk mv ms) := pps_cons hk hv hr
inductive RepP (K : PySem.W.Frag) (H : Hp) : List (V × V) → List (D × D) → Prop
  | nil : RepP K H [] []
  | cons {x y : V} {d d' : D} {vs : List (V × V)} {ds : List (D × D)} : Rep K H x d → Rep K H y d' → RepP K H vs ds → RepP K H ((x, y) :: vs) ((d, d') :: ds)
theorem pairs_read {K : PySem.W.Frag} {F : Fm} {own : List Addr} {δ : List DV} {EK : Er → Prop} {σ : L2.St} : ∀ {ms : List (TM × TM)} {H : Hp} {P : List (D × D) → Prop} {Q : List (V × V) → Hp → Prop}, At K W σ H F own δ EK → mPairs ms δ P EK →
    (∀ ds vs H', P ds → Same H H' → RepP K (sub H' (F.ls0 ++ own)) vs ds → Q vs H') → tPairs (trsOf K W ms) σ H Q
  | [], H, P, Q, A, m, q => q [] [] H m (Same.refl H) .nil
  | (mk, mv) :: r, H, P, Q, A, m, q => ⟨F, own, δ, _, EK, A, m, fun x vx H1 m1 s1 r1 => ⟨F, own, δ, _, EK, A.on s1, m1, fun y vy H2 m2 s2 r2 =>
      pairs_read (ms := r) (A.on (s1.trans s2)) m2 fun ds vs H3 p3 s3 r3 => q _ _ H3 p3 ((s1.trans s2).trans s3) (.cons (r1.clean.mono (sub_same (s2.trans s3))) (r2.clean.mono (sub_same s3)) r3)⟩⟩
theorem RepP.split {K : PySem.W.Frag} {H : Hp} : ∀ {kvs : List (Key × D)} {vs : List (V × V)}, RepP K H vs (kvs.map fun kv => (keyD kv.1, kv.2)) → ∃ ws : List (Key × V), vs = ws.map (fun kv => (kV kv.1, kv.2)) ∧ RepKs K H ws kvs
  | [], _, r => by cases r; exact ⟨[], rfl, .nil⟩
  | (k, d) :: kvs, _, r => by
    cases r with
    | cons h1 h2 r =>
      obtain ⟨ws, rfl, rr⟩ := RepP.split r
      cases k with
      | inl i => cases h1; exact ⟨(Sum.inl i, _) :: ws, rfl, .cons h2 rr⟩
      | inr z => cases h1; exact ⟨(Sum.inr z, _) :: ws, rfl, .cons h2 rr⟩
def mDisp (ms : List (TM × TM)) : TM := fun δ Q E => mPairs ms δ (fun ps => ∃ kvs : List (Key × D), ps = kvs.map (fun kv => (keyD kv.1, kv.2)) ∧ kvs.length ≤ 15 ∧ Q (.dict (mergeD [] kvs))) E
theorem df_disp {keys : List (Option Expr)} {values : List Expr} {ms : List (TM × TM)} (h : DPs X W pos keys values ms) (hall : keys.all (·.isSome) = true) (hl : keys.length = values.length) (h0 : keys ≠ []) (h15 : keys.length ≤ 15) : DF X W (.Dict keys values pos) (mDisp ms) :=
  PE.imp (pe_disp h hall hl h0 h15) fun σ H Q ⟨F, own, δ, P, EK, A, m, q⟩ => by
    intro p hp
    have E1 := A.env.grab hp (same_upd (o := .dK []) hp) ⟨_, upd_same, plain_of⟩
    have A1 : At X.K W σ (upd H p (.dK [])) F (p :: own) δ EK := ⟨E1, fun er cls dd H' k s r => A.pass er cls dd H' k ((same_upd hp).trans s) (r.less fun b hb => (List.mem_append.mp hb).elim (fun z => List.mem_append_left _ z) fun z => List.mem_append_right _ (List.mem_cons_of_mem _ z))⟩
    refine pairs_read A1 m fun ds vs H2 m2 s2 r2 => ?_
    obtain ⟨kvs, rfl, hn, pd⟩ := m2
    obtain ⟨ws, rfl, rr⟩ := r2.split
    refine ⟨s2 _ _ upd_same, ws, rfl, by rw [rr.length]; exact hn, ?_⟩
    have sn : Same H (upd H2 p (.dK (mergeK [] ws))) := Same.put ((same_upd hp).trans s2) hp (s2 _ _ upd_same)
    have es : sub (upd H2 p (.dK (mergeK [] ws))) (p :: (F.ls0 ++ own)) = sub H2 (F.ls0 ++ (p :: own)) := by
      rw [sub_upd List.mem_cons_self]
      exact sub_congr mem_swap
    refine q _ p _ pd hp sn (.d upd_same ?_ ?_)
    · have h1 := length_mergeK ws []
      rw [List.length_nil] at h1
      rw [sizeLine_eq, ]
      have := rr.length
      omega
    · rw [es]
      exact RepKs.merge rr .nil
theorem df_dnew : DF X W (.Dict [] [] pos) (mC (.dict [])) := PE.imp pe_dnewK fun σ H Q ⟨F, own, δ, P, EK, A, m, q⟩ p hp => q _ p _ m hp (same_upd hp) (.d upd_same (Nat.zero_le _) .nil)
/-! ### slices -/
abbrev OM := List DV → (Option Int → Prop) → (Er → Prop) → Prop
def tpo (K : PySem.W.Frag) (W : WX) (mo : OM) : TO := fun σ H Q => ∃ (F : Fm) (own : List Addr) (δ : List DV) (P : Option Int → Prop) (EK : Er → Prop), At K W σ H F own δ EK ∧ mo δ P EK ∧ ∀ o H', P o → Same H H' → Q o H'
def DO (X : Cx) (W : WX) (e : Option Expr) (mo : OM) : Prop := PO X e (tpo X.K W mo)
theorem PO.imp {e : Option Expr} {t t' : TO} (h : PO X e t) (kk : ∀ σ H Q, t' σ H Q → t σ H Q) : PO X e t' := ⟨fun pins s σ H Q I q => h.run pins s σ H Q I (kk _ _ _ q)⟩
def mNoPart : OM := fun _ P _ => P none
def mPart (ma : TM) : OM := fun δ P E => ma δ (fun d => ∃ i, d = .int i ∧ P (some i)) E
theorem do_none : DO X W none mNoPart := PO.imp po_none fun σ H Q ⟨F, own, δ, P, EK, A, m, q⟩ => q none H m (Same.refl H)
theorem do_some (ha : DE X W a ba ma) : DO X W (some a) (mPart ma) := PO.imp (po_some ha) fun σ H Q ⟨F, own, δ, P, EK, A, m, q⟩ => ⟨F, own, δ, _, EK, A, m, fun d v H1 ⟨i, ed, pp⟩ s r => by
  subst ed
  exact ⟨i, r.isInt, q _ H1 pp s⟩⟩
def cutL {α : Type} (xs : List α) (lo hi : Option Int) : List α := (xs.drop (HT.sIx xs.length 0 lo)).take (HT.sIx xs.length xs.length hi - HT.sIx xs.length 0 lo)
def fSlice (d : D) (lo hi : Option Int) (Q : D → Prop) : Prop := match d with
  | .list xs => Q (.list (cutL xs lo hi))
  | .tup xs => Q (.tup (cutL xs lo hi))
  | _ => False
def mSlice (ma : TM) (ml mu : OM) : TM := fun δ Q E => ma δ (fun d => ml δ (fun lo => mu δ (fun hi => fSlice d lo hi Q) E) E) E
theorem Reps.cut {K : PySem.W.Frag} {H : Hp} {xs : List V} {ds : List D} (r : Reps K H xs ds) (lo hi : Option Int) : Reps K H (cutV xs lo hi) (cutL ds lo hi) := by
  unfold cutV cutL
  rw [r.length]
  exact (r.drop _).take _
theorem de_slice {lo hi : Option Expr} {ml mu : OM} {p2 : Pos} (he : DE X W e ba ma) (hl : DO X W lo ml) (hu : DO X W hi mu) : DE X W (.Subscript e (.Slice lo hi none p2) pos) false (mSlice ma ml mu) :=
  PE.imp (pe_slice (SlR.or sl_list sl_tupA) he hl hu) fun σ H Q ⟨F, own, δ, P, EK, A, m, q⟩ => ⟨F, own, δ, _, EK, A, m, fun d v H1 m1 s1 r1 => ⟨F, own, δ, _, EK, A.on s1, m1, fun l H2 m2 s2 => ⟨F, own, δ, _, EK, A.on (s1.trans s2), m2, fun u H3 m3 s3 => by
    have r3 := r1.mono (s2.trans s3).ob
    have t3 := (A.env.grow ((s1.trans s2).trans s3)).trk
    unfold fSlice at m3
    split at m3
    · obtain ⟨a, xs, rfl, h1, h2, h3⟩ := r3.list
      have hz : (cutV xs l u).length ≤ sizeLine := Nat.le_trans (cutV_length xs l u) h2
      exact .inl ⟨a, xs, rfl, .of h1, fun p hp => q _ _ _ m3 (((s1.trans s2).trans s3).trans (same_upd hp)) (.cl (new_list t3 hp hz (h3.cut l u)))⟩
    · rename_i dsx
      obtain ⟨a, xs, ev, h1, h2, h3⟩ := r3.tup
      subst ev
      have hz : (cutV xs l u).length ≤ sizeLine := Nat.le_trans (cutV_length xs l u) h2
      refine .inr ⟨a, xs, rfl, h1, fun ⟨q1, q2⟩ => ?_, fun _ p hp => q _ _ _ m3 (((s1.trans s2).trans s3).trans (same_upd hp)) (.cl (new_tup t3 hp hz (h3.cut l u)))⟩
      refine q _ _ H3 m3 ((s1.trans s2).trans s3) ?_
      have e : cutL dsx l u = dsx := by
        unfold cutL
        rw [← h3.length, q1, q2, List.drop_zero, Nat.sub_zero, h3.length, List.take_length]
      rw [e]
      cases r3 with
      | cl r3 => exact .cl r3
    · exact m3.elim⟩⟩⟩
/-! ### zip of two lists, of two tuples -/
def zipD (xs ys : List D) : List D := (xs.zip ys).map fun q => .tup [q.1, q.2]
theorem zipD_length (xs ys : List D) : (zipD xs ys).length = min xs.length ys.length := by unfold zipD; rw [List.length_map, List.length_zip]
theorem zipD_get {xs ys : List D} {i : Nat} {d d' : D} (h : xs[i]? = some d) (h' : ys[i]? = some d') : (zipD xs ys)[i]? = some (.tup [d, d']) := by
  unfold zipD
  rw [List.getElem?_map, List.getElem?_zip_eq_some (z := (d, d')) |>.mpr ⟨h, h'⟩]
  rfl
def mZip (la : LM) : LM := fun δ P E => la δ (fun ds => (∃ xs ys, ds = [.list xs, .list ys] ∧ P (zipD xs ys)) ∨ (∃ xs ys, ds = [.tup xs, .tup ys] ∧ P (zipD xs ys))) E
theorem itok_zipT {K : PySem.W.Frag} {Hg Hb : Hp} {a b : Addr} {xs ys : List V} {ds es : List D} (h : SqT K Hg a xs) (h' : SqT K Hg b ys) (hz : xs.length ≤ sizeLine) (r : Reps K Hb xs ds) (r' : Reps K Hb ys es) : ItOk K (RZ.ItzT K a b) Hg Hb (zipD ds es) where
  sz := by rw [zipD_length, ← r.length]; omega
  go := fun i H s hi => by
    rw [zipD_length, ← r.length, ← r'.length] at hi
    exact ⟨xs, ys, xs[i]'(by omega), ys[i]'(by omega), sameT s h, sameT s h', List.getElem?_eq_getElem _, List.getElem?_eq_getElem _⟩
  stop := fun i H s hi => by
    rw [zipD_length, ← r.length, ← r'.length] at hi
    exact ⟨xs, ys, sameT s h, sameT s h', by omega⟩
  yld := fun i H x H' ls s sb ht hi ⟨T, v, v', ev, hT, eH, k1, k2⟩ => by
    subst ev eH
    obtain ⟨d, e1, r1⟩ := r.get (k1 xs (sameT s h))
    obtain ⟨d', e2, r2⟩ := r'.get (k2 ys (sameT s h'))
    exact ⟨_, zipD_get e1 e2, same_upd hT, new_tup ht hT (by show 2 ≤ sizeLine; rw [sizeLine_eq]; decide) (.cons (r1.mono sb) (.cons (r2.mono sb) .nil))⟩
theorem itok_zipL {K : PySem.W.Frag} {Hg Hb : Hp} {a b : Addr} {xs ys : List V} {ds es : List D} (h : Hg a = some (.lst xs)) (h' : Hg b = some (.lst ys)) (hz : xs.length ≤ sizeLine) (r : Reps K Hb xs ds) (r' : Reps K Hb ys es) : ItOk K (L2.Itz K a b) Hg Hb (zipD ds es) where
  sz := by rw [zipD_length, ← r.length]; omega
  go := fun i H s hi => by
    rw [zipD_length, ← r.length, ← r'.length] at hi
    exact ⟨xs, ys, xs[i]'(by omega), ys[i]'(by omega), .of (s _ _ h), .of (s _ _ h'), List.getElem?_eq_getElem _, List.getElem?_eq_getElem _⟩
  stop := fun i H s hi => by
    rw [zipD_length, ← r.length, ← r'.length] at hi
    exact ⟨xs, ys, .of (s _ _ h), .of (s _ _ h'), by omega⟩
  yld := fun i H x H' ls s sb ht hi ⟨T, v, v', ev, hT, eH, k1, k2⟩ => by
    subst ev eH
    obtain ⟨d, e1, r1⟩ := r.get (k1 xs (.of (s _ _ h)))
    obtain ⟨d', e2, r2⟩ := r'.get (k2 ys (.of (s _ _ h')))
    exact ⟨_, zipD_get e1 e2, same_upd hT, new_tup ht hT (by show 2 ≤ sizeLine; rw [sizeLine_eq]; decide) (.cons (r1.mono sb) (.cons (r2.mono sb) .nil))⟩
theorem RVs.twob {K : PySem.W.Frag} {fo ls : List Addr} {H : Hp} {b : Bool} {vs : List V} {d d' : D} (r : RVs K fo ls H b vs [d, d']) : ∃ v v', vs = [v, v'] ∧ RV K fo ls H b v d ∧ RV K fo ls H b v' d' := r.two
theorem di_zip {elts : List Expr} {kk : Nat} {tpos : Pos} (hg : Gl X "zip") (hm : X.mg "zip" = none) (ha : DA X W [e, e2] ba la) (hs : starEach [e, e2] X.env = (false, eval e X.env) :: starEach [e2] X.env := by rfl) (hpl : (backTo pos (starEach [e2] X.env)).any (·.1) = false := by rfl) :
    DI X W (.Tuple elts kk tpos) (.Call (.Name "zip" p) [e, e2] [] pos) ba (mZip la) :=
  PI.imp (RZ.pi_zipA hg hm ha hs hpl) fun σ H R ⟨F, own, δ, P, EK, A, m, q⟩ => ⟨F, own, δ, _, EK, A, m, fun ds vs H1 pq s r => by
    rcases pq with ⟨xs, ys, rfl, pq⟩ | ⟨xs, ys, rfl, pq⟩
    · obtain ⟨v, v', rfl, r1, r2⟩ := r.twob
      obtain ⟨a, us, rfl, h1, h2, h3⟩ := flo_list r1
      obtain ⟨b, ws, rfl, g1, g2, g3⟩ := flo_list r2
      exact ⟨a, b, us, ws, rfl, .inl ⟨.of (flo_le _ _ h1), .of (flo_le _ _ g1), q _ _ H1 pq s (itok_zipL h1 g1 h2 h3 g3)⟩⟩
    · obtain ⟨v, v', rfl, r1, r2⟩ := r.twob
      obtain ⟨a, us, rfl, h1, h2, h3⟩ := flo_tup r1
      obtain ⟨b, ws, rfl, g1, g2, g3⟩ := flo_tup r2
      exact ⟨a, b, us, ws, rfl, .inr ⟨sameT flo_le h1, sameT flo_le g1, q _ _ H1 pq s (itok_zipT h1 g1 h2 h3 g3)⟩⟩⟩
end
end DL
set_option Elab.async false
set_option linter.all false
set_option maxRecDepth 100000
set_option maxHeartbeats 4000000
/-! DL10: loops over data. -/
namespace DL
open PySem PySem.Spec PyProof.Rows L2
variable [TabsC]
section
variable {g : GM} {mt : BM} {me : TM} {mb : SM} {δ0 δ : List DV} {k : KD}
/-- a comprehension whose turns are reckoned -/
theorem compL_det {ds : List D} (p : D → Bool) (f : D → D) (h : ∀ d, d ∈ ds → ∀ (R : D → Prop) (S : Prop), (if p d = true then R (f d) else S) → g d δ0 fun δ' => mt δ' (fun b => if b = true then me δ' R NoE else S) NoE) :
    ∀ {acc : List D} {Q : D → Prop}, Q (.list (acc ++ (ds.filter p).map f)) → compL g mt me δ0 ds acc Q := by
  induction ds with
  | nil =>
    intro acc Q q
    simpa [compL] using q
  | cons d ds ih =>
    intro acc Q q
    unfold compL
    refine h d List.mem_cons_self _ _ ?_
    by_cases e : p d = true
    · rw [if_pos e]
      refine ih (fun d' h' => h d' (List.mem_cons_of_mem _ h')) ?_
      rw [List.filter_cons_of_pos e] at q
      simpa using q
    · rw [if_neg e]
      refine ih (fun d' h' => h d' (List.mem_cons_of_mem _ h')) ?_
      rw [List.filter_cons_of_neg e] at q
      exact q
/-- .. without a test -/
theorem compL_map {ds : List D} (f : D → D) (h : ∀ d, d ∈ ds → ∀ (R : D → Prop) (S : Prop), R (f d) → g d δ0 fun δ' => mt δ' (fun b => if b = true then me δ' R NoE else S) NoE) {acc : List D} {Q : D → Prop} (q : Q (.list (acc ++ ds.map f))) : compL g mt me δ0 ds acc Q := by
  refine compL_det (fun _ => true) f (fun d hd R S r => h d hd R S (by simpa using r)) ?_
  have e : ds.filter (fun _ => true) = ds := List.filter_eq_self.mpr fun _ _ => rfl
  rw [e]
  exact q
/-- a loop by what holds ahead of each turn -/
theorem forL_inv {ds : List D} (I : Nat → List DV → Prop) (h : ∀ (i : Nat) (d : D) (δ : List DV) (N : List DV → Prop), ds[i]? = some d → I i δ → (∀ δ', I (i + 1) δ' → N δ') → g d δ fun δ' => mb δ' { k with nx := N, ct := N, bk := k.nx })
    (h0 : I 0 δ) (hd : ∀ δ, I ds.length δ → k.nx δ) : forL g mb ds δ k := by
  have go : ∀ (n i : Nat) (δ : List DV), i + n = ds.length → I i δ → forL g mb (ds.drop i) δ k := by
    intro n
    induction n with
    | zero =>
      intro i δ e hi
      have e' : i = ds.length := by omega
      subst e'
      rw [List.drop_length]
      exact hd δ hi
    | succ n ih =>
      intro i δ e hi
      have hl : i < ds.length := by omega
      have eg : ds[i]? = some ds[i] := List.getElem?_eq_getElem hl
      rw [drop_get eg]
      exact h i _ δ _ eg hi fun δ' h' => ih (i + 1) δ' (by omega) h'
  simpa using go ds.length 0 δ (by omega) h0
end
theorem rangeD_get {lo : Int} {n i : Nat} {d : D} (h : (rangeD lo n)[i]? = some d) : i < n ∧ d = .int (lo + i) := by
  unfold rangeD at h
  rw [List.getElem?_map] at h
  by_cases hi : i < n
  · rw [List.getElem?_range hi] at h
    exact ⟨hi, (Option.some.inj h).symm⟩
  · rw [List.getElem?_eq_none (by simpa using hi)] at h
    cases h
theorem rangeD_mem {lo : Int} {n : Nat} {d : D} (h : d ∈ rangeD lo n) : ∃ i : Nat, i < n ∧ d = .int (lo + i) := by
  obtain ⟨i, hi⟩ := List.getElem?_of_mem h
  exact ⟨i, rangeD_get hi⟩
theorem atI_of {α : Type} {xs : List α} {i : Int} (h0 : 0 ≤ i) (h1 : i < xs.length) : ∃ x, atI xs i = some x ∧ x ∈ xs := by
  have hn : i.toNat < xs.length := by omega
  refine ⟨xs[i.toNat], ?_, List.getElem_mem hn⟩
  have := atI_nat (xs := xs) (j := i.toNat) (v := xs[i.toNat]) (List.getElem?_eq_getElem hn)
  rwa [Int.toNat_of_nonneg h0] at this
end DL
set_option Elab.async false
set_option linter.all false
set_option maxRecDepth 100000
set_option maxHeartbeats 4000000
/-! DL11: equations for the walk over data. -/
namespace DL
open PySem PySem.Spec PyProof.Rows L2
variable [TabsC]
theorem p61 : (2 : Int) ^ 61 = 2305843009213693952 := by decide
theorem eAbs {i : Int} {Q : D → Prop} : fAbs [.int i] Q = Q (.int (if i < 0 then -i else i)) := propext ⟨fun ⟨j, e, q⟩ => by cases e; exact q, fun q => ⟨i, rfl, q⟩⟩
theorem eMax2 {i j : Int} {Q : D → Prop} : fMax2 [.int i, .int j] Q = Q (.int (if j > i then j else i)) := propext ⟨fun ⟨_, _, e, q⟩ => by cases e; exact q, fun q => ⟨i, j, rfl, q⟩⟩
theorem eMin2 {i j : Int} {Q : D → Prop} : fMin2 [.int i, .int j] Q = Q (.int (if j < i then j else i)) := propext ⟨fun ⟨_, _, e, q⟩ => by cases e; exact q, fun q => ⟨i, j, rfl, q⟩⟩
section
variable {i j : Int} {Q : D → Prop} {R : Bool → Prop} {a b : Str} {xs ys : List D} {ns : List Int} {p q : Bool} {C : Int → Int → Prop} {g : Int → Int → Int} {gt : Int → Int → Bool} {ht : List Nat → List Nat → Bool} {lo hi : Option Int}
theorem e_fIx_1 : fIx (.list xs) (.int i) Q = ∃ d, atI xs i = some d ∧ Q d := rfl
theorem e_fIx_2 : fIx (.tup xs) (.int i) Q = ∃ d, atI xs i = some d ∧ Q d := rfl
theorem e_fIx_3 : fIx (.script ns) (.int i) Q = ∃ n, atI ns i = some n ∧ Q (.int n) := rfl
theorem e_fIx_4 : fIx (.str a) (.int i) Q = ∃ c, a.length ≤ sizeLine ∧ atI a.cps.toList i = some c ∧ Q (.str ⟨#[c]⟩) := rfl
theorem e_fAdd_1 : fAdd (.int i) (.int j) Q = Q (.int (i + j)) := rfl
theorem e_fAdd_2 : fAdd (.str a) (.str b) Q = (a.length + b.length ≤ sizeLine ∧ Q (.str (a ++ b))) := rfl
theorem e_fAdd_3 : fAdd (.tup xs) (.tup ys) Q = (xs.length + ys.length ≤ sizeLine ∧ Q (.tup (xs ++ ys))) := rfl
theorem e_fAdd_4 : fAdd (.list xs) (.list ys) Q = (xs.length + ys.length ≤ sizeLine ∧ Q (.list (xs ++ ys))) := rfl
theorem e_fSub_1 : fSub (.int i) (.int j) Q = Q (.int (i - j)) := rfl
theorem e_fI_1 : fI C g (.int i) (.int j) Q = (C i j ∧ Q (.int (g i j))) := rfl
theorem e_fCmp_1 : fCmp gt ht (.int i) (.int j) R = R (gt i j) := rfl
theorem e_fCmp_2 : fCmp gt ht (.str a) (.str b) R = R (ht a.cps.toList b.cps.toList) := rfl
theorem e_fIsB_1 : fIsB (.bool p) (.bool q) R = R (decide (p = q)) := rfl
theorem e_fIsNotB_1 : fIsNotB (.bool p) (.bool q) R = R (!decide (p = q)) := rfl
theorem e_fLen_1 : fLen [.list xs] Q = Q (.int xs.length) := rfl
theorem e_fLen_2 : fLen [.tup xs] Q = Q (.int xs.length) := rfl
theorem e_fLen_3 : fLen [.script ns] Q = Q (.int ns.length) := rfl
theorem e_fLen_4 : fLen [.str a] Q = (a.length ≤ sizeLine ∧ Q (.int a.length)) := rfl
theorem e_fInt_1 : fInt [.int i] Q = Q (.int i) := rfl
theorem e_fInt_2 : fInt [.bool p] Q = Q (.int (if p then 1 else 0)) := rfl
theorem e_fTuple_1 : fTuple [.list xs] Q = Q (.tup xs) := rfl
theorem e_fTuple_2 : fTuple [.tup xs] Q = Q (.tup xs) := rfl
theorem e_fList_1 : fList [.list xs] Q = Q (.list xs) := rfl
theorem e_fList_2 : fList [.tup xs] Q = Q (.list xs) := rfl
theorem e_fSlice_1 : fSlice (.list xs) lo hi Q = Q (.list (cutL xs lo hi)) := rfl
theorem e_fSlice_2 : fSlice (.tup xs) lo hi Q = Q (.tup (cutL xs lo hi)) := rfl
end
/-- data of the plain kinds, at most n deep -/
def fineN (n : Nat) (d : D) : Prop := d.isPy = true ∧ d.py.canLay0 = true ∧ d.py.depth ≤ n
theorem fineN.fine {n : Nat} {d : D} (h : fineN n d) (hn : n ≤ 64) : d.fine = true := by
  unfold D.fine SeqAt.shaped
  rw [h.1, h.2.1, decide_eq_true (Nat.le_trans h.2.2 hn)]
  rfl
theorem fineN.mono {n m : Nat} {d : D} (h : fineN n d) (hn : n ≤ m) : fineN m d := ⟨h.1, h.2.1, Nat.le_trans h.2.2 hn⟩
theorem fineN_int {n : Nat} {i : Int} : fineN n (.int i) := ⟨rfl, rfl, Nat.zero_le _⟩
theorem fineN_bool {n : Nat} {b : Bool} : fineN n (.bool b) := ⟨rfl, rfl, Nat.zero_le _⟩
def okS (x : Str) : Prop := PyData.strOk x = true
theorem fineN_all {n : Nat} : ∀ {ds : List D}, (∀ d, d ∈ ds → fineN n d) → D.arePy ds = true ∧ PyData.canLayAll0 (D.pys ds) = true ∧ PyData.depthAll (D.pys ds) ≤ n
  | [], _ => ⟨rfl, rfl, Nat.zero_le _⟩
  | d :: ds, h => by
    obtain ⟨h1, h2, h3⟩ := h d List.mem_cons_self
    obtain ⟨g1, g2, g3⟩ := fineN_all (ds := ds) fun x hx => h x (List.mem_cons_of_mem _ hx)
    refine ⟨?_, ?_, ?_⟩
    · unfold D.arePy; rw [h1, g1]; rfl
    · unfold D.pys PyData.canLayAll0; rw [h2, g2]; rfl
    · unfold D.pys PyData.depthAll; omega
theorem fineN_list {n : Nat} {ds : List D} (h : ∀ d, d ∈ ds → fineN n d) : fineN (n + 1) (.list ds) := by
  obtain ⟨g1, g2, g3⟩ := fineN_all h
  refine ⟨?_, ?_, ?_⟩
  · unfold D.isPy; exact g1
  · unfold D.py PyData.canLay0; exact g2
  · unfold D.py PyData.depth; omega
theorem fineN_tup {n : Nat} {ds : List D} (h : ∀ d, d ∈ ds → fineN n d) : fineN (n + 1) (.tup ds) := by
  obtain ⟨g1, g2, g3⟩ := fineN_all h
  refine ⟨?_, ?_, ?_⟩
  · unfold D.isPy; exact g1
  · unfold D.py PyData.canLay0; exact g2
  · unfold D.py PyData.depth; omega
/-- equality of lists, item by item -/
def eqAll : List D → List D → Bool
  | [], [] => true
  | x :: xs, y :: ys => eqD x y && eqAll xs ys
  | _, _ => false
theorem eqvAll_pys : ∀ xs ys : List D, PyData.eqvAll (D.pys xs) (D.pys ys) = eqAll xs ys
  | [], [] => by simp [D.pys, PyData.eqvAll, eqAll]
  | [], _ :: _ => by simp [D.pys, PyData.eqvAll, eqAll]
  | _ :: _, [] => by simp [D.pys, PyData.eqvAll, eqAll]
  | x :: xs, y :: ys => by simp only [D.pys, PyData.eqvAll, eqAll, eqD, eqvAll_pys xs ys]
theorem eqD_list (xs ys : List D) : eqD (.list xs) (.list ys) = eqAll xs ys := by simp only [eqD, D.py, PyData.eqv, eqvAll_pys]
theorem eqD_tup (xs ys : List D) : eqD (.tup xs) (.tup ys) = eqAll xs ys := by simp only [eqD, D.py, PyData.eqv, eqvAll_pys]
theorem eqD_int (i j : Int) : eqD (.int i) (.int j) = (i == j) := by simp only [eqD, D.py, PyData.eqv]
theorem eqD_bool (i j : Bool) : eqD (.bool i) (.bool j) = (i == j) := by simp only [eqD, D.py, PyData.eqv]
theorem eqD_refl {d : D} (h : d.fine = true) : eqD d d = true := SeqAt.eqv_refl d.py (fine_lay h)
/-- equal lists, by what they hold -/
theorem fEq_same {d : D} {Q : Bool → Prop} (h : d.fine = true) (q : Q true) : fEq d d Q := ⟨h, h, by rw [eqD_refl h]; exact q⟩
end DL
set_option Elab.async false
set_option linter.all false
set_option maxRecDepth 100000
set_option maxHeartbeats 4000000
/-! DL12: kinds; shown texts of plain data; decimal lengths. -/
namespace DL
open PySem PySem.Spec PyProof.Rows L2
variable [TabsC]
/-! ### kinds -/
def D.isI : D → Bool
  | .int _ => true
  | .bool _ => true
  | _ => false
def D.isB : D → Bool
  | .bool _ => true
  | _ => false
def D.isS : D → Bool
  | .str _ => true
  | _ => false
def D.isT : D → Bool
  | .tup _ => true
  | _ => false
def D.isD : D → Bool
  | .dict _ => true
  | _ => false
theorem kit_int {d : D} {t : String} (h : d.tyn = some t) : kitB t "int" = some d.isI := by
  cases d with
  | none => cases h; exact (by decide +kernel : kitB "NoneType" "int" = some false)
  | bool _ => cases h; exact (by decide +kernel : kitB "bool" "int" = some true)
  | int _ => cases h; exact (by decide +kernel : kitB "int" "int" = some true)
  | str _ => cases h; exact (by decide +kernel : kitB "str" "int" = some false)
  | list _ => cases h; exact (by decide +kernel : kitB "list" "int" = some false)
  | tup _ => cases h; exact (by decide +kernel : kitB "tuple" "int" = some false)
  | dict _ => cases h; exact (by decide +kernel : kitB "dict" "int" = some false)
  | dice => cases h
  | script _ => cases h
  | tdict _ => cases h
  | opq _ _ => cases h
  | ty _ => cases h
  | obj _ _ => cases h
  | fn _ => cases h
  | exc _ _ _ _ _ => cases h
  | sob _ _ => cases h
theorem kit_bool {d : D} {t : String} (h : d.tyn = some t) : kitB t "bool" = some d.isB := by
  cases d with
  | none => cases h; exact (by decide +kernel : kitB "NoneType" "bool" = some false)
  | bool _ => cases h; exact (by decide +kernel : kitB "bool" "bool" = some true)
  | int _ => cases h; exact (by decide +kernel : kitB "int" "bool" = some false)
  | str _ => cases h; exact (by decide +kernel : kitB "str" "bool" = some false)
  | list _ => cases h; exact (by decide +kernel : kitB "list" "bool" = some false)
  | tup _ => cases h; exact (by decide +kernel : kitB "tuple" "bool" = some false)
  | dict _ => cases h; exact (by decide +kernel : kitB "dict" "bool" = some false)
  | dice => cases h
  | script _ => cases h
  | tdict _ => cases h
  | opq _ _ => cases h
  | ty _ => cases h
  | obj _ _ => cases h
  | fn _ => cases h
  | exc _ _ _ _ _ => cases h
  | sob _ _ => cases h
theorem kit_str {d : D} {t : String} (h : d.tyn = some t) : kitB t "str" = some d.isS := by
  cases d with
  | none => cases h; exact (by decide +kernel : kitB "NoneType" "str" = some false)
  | bool _ => cases h; exact (by decide +kernel : kitB "bool" "str" = some false)
  | int _ => cases h; exact (by decide +kernel : kitB "int" "str" = some false)
  | str _ => cases h; exact (by decide +kernel : kitB "str" "str" = some true)
  | list _ => cases h; exact (by decide +kernel : kitB "list" "str" = some false)
  | tup _ => cases h; exact (by decide +kernel : kitB "tuple" "str" = some false)
  | dict _ => cases h; exact (by decide +kernel : kitB "dict" "str" = some false)
  | dice => cases h
  | script _ => cases h
  | tdict _ => cases h
  | opq _ _ => cases h
  | ty _ => cases h
  | obj _ _ => cases h
  | fn _ => cases h
  | exc _ _ _ _ _ => cases h
  | sob _ _ => cases h
theorem kit_tup {d : D} {t : String} (h : d.tyn = some t) : kitB t "tuple" = some d.isT := by
  cases d with
  | none => cases h; exact (by decide +kernel : kitB "NoneType" "tuple" = some false)
  | bool _ => cases h; exact (by decide +kernel : kitB "bool" "tuple" = some false)
  | int _ => cases h; exact (by decide +kernel : kitB "int" "tuple" = some false)
  | str _ => cases h; exact (by decide +kernel : kitB "str" "tuple" = some false)
  | list _ => cases h; exact (by decide +kernel : kitB "list" "tuple" = some false)
  | tup _ => cases h; exact (by decide +kernel : kitB "tuple" "tuple" = some true)
  | dict _ => cases h; exact (by decide +kernel : kitB "dict" "tuple" = some false)
  | dice => cases h
  | script _ => cases h
  | tdict _ => cases h
  | opq _ _ => cases h
  | ty _ => cases h
  | obj _ _ => cases h
  | fn _ => cases h
  | exc _ _ _ _ _ => cases h
  | sob _ _ => cases h
theorem kit_dict {d : D} {t : String} (h : d.tyn = some t) : kitB t "dict" = some d.isD := by
  cases d with
  | none => cases h; exact (by decide +kernel : kitB "NoneType" "dict" = some false)
  | bool _ => cases h; exact (by decide +kernel : kitB "bool" "dict" = some false)
  | int _ => cases h; exact (by decide +kernel : kitB "int" "dict" = some false)
  | str _ => cases h; exact (by decide +kernel : kitB "str" "dict" = some false)
  | list _ => cases h; exact (by decide +kernel : kitB "list" "dict" = some false)
  | tup _ => cases h; exact (by decide +kernel : kitB "tuple" "dict" = some false)
  | dict _ => cases h; exact (by decide +kernel : kitB "dict" "dict" = some true)
  | dice => cases h
  | script _ => cases h
  | tdict _ => cases h
  | opq _ _ => cases h
  | ty _ => cases h
  | obj _ _ => cases h
  | fn _ => cases h
  | exc _ _ _ _ _ => cases h
  | sob _ _ => cases h
/-! ### texts -/
/-! ### shown data -/
structure Sh (n k : Nat) (d : D) : Prop where
  py : d.isPy = true
  sh : d.py.showable = true
  dep : d.py.depth ≤ k
  len : d.py.shown.length ≤ n
  ok : okS d.py.shown
theorem Sh.mono {n k n' k' : Nat} {d : D} (h : Sh n k d) (hn : n ≤ n') (hk : k ≤ k') : Sh n' k' d := ⟨h.py, h.sh, Nat.le_trans h.dep hk, Nat.le_trans h.len hn, h.ok⟩
end DL
set_option Elab.async false
set_option linter.all false
set_option maxRecDepth 100000
set_option maxHeartbeats 4000000
/-! DL13: [::-1]; sorted(set(..)); three comparisons in a row; tuple(range(..)). -/
namespace DL
open PySem PySem.Spec PyProof.Rows L2
variable [TabsC]
section
variable {prog : Program} {w : World} {A : Around} {E : Value → Shared → Prop} {s : Shared}
theorem adjust_back (n : Nat) : Builtin.Slice.sliceAdjust none none (-1) (n : Int) = ((n : Int) - 1, -1) := by
  unfold Builtin.Slice.sliceAdjust
  simp
theorem places_back (n : Nat) : Builtin.Slice.slicePlaces ((n : Int) - 1) (-1) (-1) = n := by
  unfold Builtin.Slice.slicePlaces
  simp only [show ¬ ((-1 : Int) > 0) by decide, if_false]
  split
  · have e : ((n : Int) - 1 - -1 - 1) / (- -1) + 1 = n := by
      rw [show (- -1 : Int) = 1 by decide, Int.ediv_one]; omega
    rw [e]; rfl
  · rename_i h
    have : n = 0 := by omega
    subst this; rfl
theorem fm_congr {α β : Type} {f g : α → Option β} : ∀ {l : List α}, (∀ x, x ∈ l → f x = g x) → l.filterMap f = l.filterMap g
  | [], _ => rfl
  | x :: l, h => by
    rw [List.filterMap_cons, List.filterMap_cons, h x List.mem_cons_self, fm_congr fun y hy => h y (List.mem_cons_of_mem _ hy)]
theorem pick_back (xs : Array Value) : ((List.range xs.size).filterMap fun (k : Nat) => xs[(((xs.size : Int) - 1) + (k : Int) * (-1)).toNat]?).toArray = xs.toList.reverse.toArray := by
  have e : (fun (k : Nat) => xs[(((xs.size : Int) - 1) + (k : Int) * (-1)).toNat]?) = fun (k : Nat) => xs[(((xs.size : Int) - 1) - (k : Int)).toNat]? := by
    funext k
    congr 2
    omega
  rw [e]
  have h : ∀ k ∈ List.range xs.size, xs[(((xs.size : Int) - 1) - (k : Int)).toNat]? = xs[xs.size - 1 - k]? := fun k hk => by
    have := List.mem_range.mp hk
    congr 1
    omega
  rw [fm_congr h]
  have g := PySem.W.krv_all xs
  have r := PySem.W.krv_range xs.size
  have : (List.range xs.size).filterMap (fun k => xs[xs.size - 1 - k]?) = ((List.range xs.size).map (fun k => xs.size - 1 - k)).filterMap (xs[·]?) := by
    rw [List.filterMap_map]; rfl
  rw [this, r, List.filterMap_reverse, g]
theorem applied_back {sl : Addr} {vl vu vs : Value} {n : Nat} {Q : Int × Int × Nat → Shared → Prop} (hs : s.heap.IsSliceOf sl vl vu vs) (pl : IsPart vl none) (pu : IsPart vu none) (ps : IsPart vs (some (-1)))
    (h : Q (((n : Int) - 1), -1, n) s) : wpAny (model prog w) A (Builtin.Slice.sliceApplied (.ref sl) (pure (n : Int))) Q E s := by
  obtain ⟨os, hos, hcs, hds⟩ := id hs
  unfold Builtin.Slice.sliceApplied Builtin.Slice.sliceFields
  refine wpAny_bind (wpAny_bind (wpAny_field hos hds (x := vl) rfl (wpAny_bind (wpAny_field hos hds (x := vu) rfl (wpAny_bind (wpAny_field hos hds (x := vs) rfl (wpAny_pure ?_)))))))
  refine wpAny_bind (HT.slicePart_ ps ?_)
  show wpAny _ _ (if ((-1 : Int) == 0) = true then _ else _) _ _ s
  rw [if_neg (by decide)]
  refine wpAny_bind (HT.slicePart_ pl (wpAny_bind (HT.slicePart_ pu (wpAny_bind (wpAny_pure ?_)))))
  show wpAny _ _ (match Builtin.Slice.sliceAdjust none none (-1) (n : Int) with | (lo, hi) => pure (lo, (-1 : Int), Builtin.Slice.slicePlaces lo hi (-1))) _ _ s
  rw [adjust_back]
  show wpAny _ _ (pure (((n : Int) - 1), (-1 : Int), Builtin.Slice.slicePlaces ((n : Int) - 1) (-1) (-1))) _ _ s
  rw [places_back]
  exact wpAny_pure h
theorem getItem_tup_back {t sl : Addr} {items : Array Value} {vl vu vs : Value} {Q : Value → Shared → Prop} (ht : IsTup s.heap t items) (hs : s.heap.IsSliceOf sl vl vu vs) (pl : IsPart vl none) (pu : IsPart vu none) (ps : IsPart vs (some (-1)))
    (h : Q (.ref s.heap.objs.size) { s with heap := s.heap.push { cls := .type "tuple", data := .seq items.toList.reverse.toArray } }) (hsz : items.size ≤ sizeLine) : wpAny (model prog w) A (getItem (.ref t) (.ref sl)) Q E s := by
  have fits : sizeOk (.seq items.toList.reverse.toArray) := by
    show items.toList.reverse.toArray.size ≤ sizeLine
    rw [List.size_toArray, List.length_reverse, Array.length_toList]
    exact hsz
  obtain ⟨os, hos, hcs, hds⟩ := id hs
  have isSlice : s.TypeIs (.ref sl) "slice" := ⟨os, hos, hcs⟩
  unfold getItem
  try with_reducible refine wpAny_holding ?_
  first | refine wpAny_bind (wpAny_pure ?_) | skip
  refine wpAny_bind (wpAny_sequenceKey ht.typeIs (by decide) (wpAny_bind (wpAny_callSpecial?_slot (name := Str.ofString "__getitem__") ht.typeIs PyProof.Rows.slot_tuple_getitem (wpAny_call_entry PyProof.Rows.slot_tuple_getitem ht.typeIs entry_tuple_getitem ?_ (args_tuple_getitem _ _)))))
  show wpAny _ _ (Builtin.Tuple.tupleItemsOf (.ref t) >>= _) _ _ s
  refine wpAny_bind (tupleItemsOf_ ht (wpAny_bind (wpAny_typeOf isSlice ?_)))
  rw [if_pos (by decide)]
  refine wpAny_bind (applied_back hs pl pu ps ?_)
  show wpAny _ _ (if ((((items.size : Int) - 1) == 0 && (-1 : Int) == 1 && items.size == items.size) = true) then _ else _) _ _ s
  rw [if_neg (by rw [show ((-1 : Int) == 1) = false by decide, Bool.and_false, Bool.false_and]; decide), pick_back]
  first
    | exact wpAny_bind (m := Builtin.Tuple.tupleExact _) (wpAny_newObj_type (wpAny_pure ⟨_, rfl, wpAny_pure h⟩) fits)
    | exact wpAny_bind (m := Builtin.Tuple.tupleExact _) (wpAny_newObj_type (wpAny_bind (wpAny_pure (wpAny_pure ⟨_, rfl, wpAny_pure h⟩))) fits)
    | exact wpAny_bind (wpAny_bind (m := Builtin.Tuple.tupleExact _) (wpAny_newObj_type (wpAny_pure (wpAny_pure ⟨_, rfl, wpAny_pure h⟩)) fits))
    | exact wpAny_bind (wpAny_bind (m := Builtin.Tuple.tupleExact _) (wpAny_newObj_type (wpAny_pure ⟨_, rfl, wpAny_pure h⟩) fits))
end
section
variable {X : Cx} {W : WX} {a b c e e2 o : Expr} {es : List Expr} {ba bb : Bool} {ma mb : TM} {la : LM} {pos p : Pos} {x y : Str} {k : Nat}
/-! ### e[::-1] -/
def tBack (K : PySem.W.Frag) (te : TE) : TE := fun σ H Q => te σ H fun x H1 => ∃ a xs, x = .ref a ∧ ((SqL K H1 a xs ∧ ∀ p, H1 p = none → Q (.ref p) (upd H1 p (.lst xs.reverse))) ∨ (SqT K H1 a xs ∧ ∀ p, H1 p = none → Q (.ref p) (upd H1 p (.tup xs.reverse))))
theorem pe_back {te : TE} {k : Nat} {p1 p2 p3 pos : Pos} (he : PE X e te) : PE X (.Subscript e (.Slice none none (some (.UnaryOp .USub (.Constant (.int 1) k p1) p2)) p3) pos) (tBack X.K te) := by
  refine ⟨fun pins s σ H Q I h => Subscript_ (thn (he.run pins s σ H _ I h) fun v s1 ⟨x, H1, I1, r1, a, xs, ex, q⟩ => ?_)⟩
  subst ex
  cases r1
  have hst : PO X (some (.UnaryOp .USub (.Constant (.int 1) k p1) p2)) (tPart (tUn (rU fun i => .int (-i)) (tC (.int 1)))) := po_some (pe_un un_neg pe_int)
  refine wpAny_Slice (thn (po_none.run pins s1 σ H1 (fun o H2 => o = none ∧ H2 = H1) I1 ⟨rfl, rfl⟩) fun vl s2 ⟨l, H2, I2, pl, el, e2⟩ => ?_)
  subst el e2
  refine thn (po_none.run pins s2 σ H2 (fun o H3 => o = none ∧ H3 = H2) I2 ⟨rfl, rfl⟩) fun vu s3 ⟨u, H3, I3, pu, eu, e3⟩ => ?_
  subst eu e3
  refine thn (hst.run pins s3 σ H3 (fun o H4 => o = some (-1) ∧ H4 = H3) I3 ⟨1, rfl, -1, rfl, rfl, rfl⟩) fun vs s4 ⟨o, H4, I4, ps, eo, e4⟩ => ?_
  subst eo e4
  have I5 : Inv X pins σ H4 { s4 with heap := s4.heap.push { cls := .type "slice", data := .fields #[vl, vu, vs] } } := I4.kept (t' := s4.toks) fun b ob q => Heap.get?_push_of_some _ q
  show wpAny (model X.prog X.w) X.A (subscriptTail e (.Slice none none (some (.UnaryOp .USub (.Constant (.int 1) k p1) p2)) p3) (.ref a) (.ref s4.heap.objs.size)) (EP X pins σ Q) X.xe { s4 with heap := s4.heap.push { cls := .type "slice", data := .fields #[vl, vu, vs] } }
  rcases q with ⟨hx, q⟩ | ⟨hx, q⟩
  · obtain ⟨its, r, ht, hz⟩ := I5.list hx
    have hlen := r.length
    refine tail_any (ops := [.ref a, .ref s4.heap.objs.size]) ht.isList.typeIs (PySem.slot_list_getitem.lookup) ?_ (by with_unfolding_all rfl)
    refine wpAny_getItem_list_slice ht.isList (Heap.IsSliceOf.new _ vl vu vs) pl pu ps (by decide) ?_ (by rw [List.size_toArray]; omega)
    rw [PySem.W.krv_pick]
    exact ⟨.ref _, _, I5.laid (t' := s4.toks) (o := .lst xs.reverse) (fun b ob q => Heap.get?_push_of_some _ q) (Nat.le_refl _) ⟨by rw [List.length_reverse]; exact hz, _, 0, r.reverse, Heap.get?_push_size _ rfl⟩, rfl, q _ (I5.hok.fresh (Nat.le_refl _))⟩
  · obtain ⟨its, r, ht, hz⟩ := I5.tuple hx
    have hlen := r.length
    refine tail_any (ops := [.ref a, .ref s4.heap.objs.size]) ht.typeIs (PyProof.Rows.slot_tuple_getitem.lookup) ?_ (by with_unfolding_all rfl)
    refine getItem_tup_back ht (Heap.IsSliceOf.new _ vl vu vs) pl pu ps ?_ (by rw [List.size_toArray]; omega)
    exact ⟨.ref _, _, I5.laid (t' := s4.toks) (o := .tup xs.reverse) (fun b ob q => Heap.get?_push_of_some _ q) (Nat.le_refl _) ⟨by rw [List.length_reverse]; exact hz, _, r.reverse, IsTup.new _ _⟩, rfl, q _ (I5.hok.fresh (Nat.le_refl _))⟩
def mRev (ma : TM) : TM := fun δ Q E => ma δ (fun d => (∃ ds, d = .list ds ∧ Q (.list ds.reverse)) ∨ (∃ ds, d = .tup ds ∧ Q (.tup ds.reverse))) E
theorem de_rev {k : Nat} {p1 p2 p3 pos : Pos} (he : DE X W e ba ma) : DE X W (.Subscript e (.Slice none none (some (.UnaryOp .USub (.Constant (.int 1) k p1) p2)) p3) pos) false (mRev ma) :=
  PE.imp (pe_back he) fun σ H Q ⟨F, own, δ, P, EK, A, m, q⟩ => ⟨F, own, δ, _, EK, A, m, fun d v H1 m1 s1 r1 => by
    have t3 := (A.env.grow s1).trk
    rcases m1 with ⟨ds, rfl, m1⟩ | ⟨ds, rfl, m1⟩
    · obtain ⟨a, xs, rfl, h1, h2, h3⟩ := r1.list
      exact ⟨a, xs, rfl, .inl ⟨.of h1, fun p hp => q _ _ _ m1 (s1.trans (same_upd hp)) (.cl (new_list t3 hp (by rw [List.length_reverse]; exact h2) h3.reverse))⟩⟩
    · obtain ⟨a, xs, rfl, h1, h2, h3⟩ := r1.tup
      exact ⟨a, xs, rfl, .inr ⟨h1, fun p hp => q _ _ _ m1 (s1.trans (same_upd hp)) (.cl (new_tup t3 hp (by rw [List.length_reverse]; exact h2) h3.reverse))⟩⟩⟩
end
end DL
set_option Elab.async false
set_option linter.all false
set_option maxRecDepth 100000
set_option maxHeartbeats 4000000
/-! DL14: set(list of ints), sorted(set(..)). -/
namespace DL
open PySem PySem.Spec PyProof.Rows L2
variable [TabsC]
section
variable {P : Program} {w : World} {A : Around} {E : Value → Shared → Prop} {s : Shared}
/-- a set as it is made -/
abbrev bare (w : World) : Obj := { cls := .type "set", dict := none, data := .set #[] 0 (.fresh 0 0 (!w.params.followText "set-order")) }
end
end DL
set_option Elab.async false
set_option linter.all false
set_option maxRecDepth 100000
set_option maxHeartbeats 4000000
/-! DL15: sorted(set(..)) over data. -/
namespace DL
open PySem PySem.Spec PyProof.Rows L2
variable [TabsC]
section
variable {X : Cx} {W : WX} {a b c e e2 o : Expr} {es : List Expr} {ba bb : Bool} {ma mb mc : TM} {la : LM} {pos p p2 pos2 : Pos} {x y : Str} {k : Nat}
def fSortSet (ds : List D) (Q : D → Prop) : Prop := ∃ ns : List Int, (ds = [.list (ns.map .int)] ∨ ds = [.tup (ns.map .int)]) ∧ ns.length < 64 ∧ ∀ ms : List Int, ms.Pairwise (· < ·) → (∀ k : Int, k ∈ ms ↔ k ∈ ns) → ms.length ≤ ns.length → Q (.list (ms.map .int))
/-! ### a op b op c op d -/
def mChain3 (f g h : D → D → (Bool → Prop) → Prop) (ma mb mc md : TM) : TM := fun δ Q E => ma δ (fun x => mb δ (fun y => f x y fun c => if c = true then mc δ (fun z => g y z fun c' => if c' = true then md δ (fun v => h z v fun c => Q (.bool c)) E else Q (.bool false)) E else Q (.bool false)) E) E
/-! ### tuple(range(..)) -/
def mTupRg1 (ma : TM) : TM := fun δ Q E => ma δ (fun d => ∃ j : Int, d = .int j ∧ RgOk 0 j ∧ Q (.tup (rangeD 0 j.toNat))) E
def mTupRg2 (ma mb : TM) : TM := fun δ Q E => ma δ (fun d => mb δ (fun d' => ∃ i j : Int, d = .int i ∧ d' = .int j ∧ RgOk i j ∧ Q (.tup (rangeD i (j - i).toNat))) E) E
end
end DL
set_option Elab.async false
set_option linter.all false
set_option maxRecDepth 100000
set_option maxHeartbeats 4000000
/-! DL16: neighbours in a row of ints; loops that give back early. -/
namespace DL
open PySem PySem.Spec PyProof.Rows L2
variable [TabsC]
/-- the neighbours -/
def nb : List Int → List (Int × Int)
  | x :: y :: r => (x, y) :: nb (y :: r)
  | _ => []
def pairD (p : Int × Int) : D := .tup [.int p.1, .int p.2]
theorem cut_tail (xs : List D) : cutL xs (some 1) none = xs.drop 1 := by
  unfold cutL
  rw [show HT.sIx xs.length 0 (some 1) = min 1 xs.length from HT.sIx_nat xs.length 0 1, HT.sIx_none]
  cases xs with
  | nil => rfl
  | cons x r =>
    have e : min 1 (x :: r).length = 1 := by rw [List.length_cons]; omega
    rw [e, List.take_of_length_le]
    rw [List.length_drop]
    omega
def gapL (ns : List Int) : Option (Int × Int) := (nb ns).find? fun p => decide (p.2 % p.1 ≠ 0)
def ascL (ns : List Int) : Bool := (nb ns).all fun p => decide (p.1 < p.2)
theorem log2_ok {n k : Nat} (hk : 0 < k) (h : n < 2 ^ k) : n.log2 < k := by
  by_cases h0 : n = 0
  · subst h0; exact hk
  · exact (Nat.log2_lt h0).mpr h
theorem log2_lim {i : Int} (h : -(10 ^ 240) < i) (h' : i < 10 ^ 240) : i.natAbs.log2 < 1000 := by
  refine log2_ok (by decide) ?_
  have b : (10 : Int) ^ 240 < 2 ^ 1000 := by decide +kernel
  have : ((i.natAbs : Nat) : Int) < 2 ^ 1000 := by
    generalize (10 : Int) ^ 240 = A at *
    generalize (2 : Int) ^ 1000 = B at *
    omega
  exact_mod_cast this
section
variable {i j : Int} {p q : Bool} {R : Bool → Prop}
theorem e_fEq_i : fEq (.int i) (.int j) R = R (decide (i = j)) := propext ⟨fun h => by have := h.2.2; rw [eqD_int] at this; exact this, fun h => ⟨fineN_int.fine (n := 0) (by decide), fineN_int.fine (n := 0) (by decide), by rw [eqD_int]; exact h⟩⟩
theorem e_fNe_i : fNe (.int i) (.int j) R = R (!decide (i = j)) := propext ⟨fun h => by have := h.2.2; rw [eqD_int] at this; exact this, fun h => ⟨fineN_int.fine (n := 0) (by decide), fineN_int.fine (n := 0) (by decide), by rw [eqD_int]; exact h⟩⟩
theorem beq_dec (p q : Bool) : (p == q) = decide (p = q) := by cases p <;> cases q <;> rfl
theorem e_fEq_b : fEq (.bool p) (.bool q) R = R (decide (p = q)) := propext ⟨fun h => by have := h.2.2; rw [eqD_bool, beq_dec] at this; exact this, fun h => ⟨fineN_bool.fine (n := 0) (by decide), fineN_bool.fine (n := 0) (by decide), by rw [eqD_bool, beq_dec]; exact h⟩⟩
theorem e_fNe_b : fNe (.bool p) (.bool q) R = R (!decide (p = q)) := propext ⟨fun h => by have := h.2.2; rw [eqD_bool, beq_dec] at this; exact this, fun h => ⟨fineN_bool.fine (n := 0) (by decide), fineN_bool.fine (n := 0) (by decide), by rw [eqD_bool, beq_dec]; exact h⟩⟩
end
theorem ex2 {α β : Type} {a : α} {b : β} {P : α → β → Prop} : (∃ x y, (a = x ∧ b = y) ∧ P x y) = P a b := propext ⟨fun ⟨_, _, ⟨e, e'⟩, h⟩ => by subst e e'; exact h, fun h => ⟨a, b, ⟨rfl, rfl⟩, h⟩⟩
theorem e_nn : isNoneD .none = true := rfl
theorem e_nt {xs : List D} : isNoneD (.tup xs) = false := rfl
theorem e_nl {xs : List D} : isNoneD (.list xs) = false := rfl
theorem e_ni {i : Int} : isNoneD (.int i) = false := rfl
end DL
set_option Elab.async false
set_option linter.all false
set_option maxRecDepth 100000
set_option maxHeartbeats 4000000
/-! DL17: zip of a tuple and a list. -/
namespace DL
open PySem PySem.Spec PyProof.Rows L2
variable [TabsC]
section
variable {X : Cx} {W : WX} {e e2 : Expr} {ba : Bool} {la : LM} {p pos : Pos}
def mZipM (la : LM) : LM := fun δ P E => la δ (fun ds => ∃ xs ys, ds = [.tup xs, .list ys] ∧ P (zipD xs ys)) E
/-! ### < of tuples of ints -/
end
end DL
set_option Elab.async false
set_option linter.all false
set_option maxRecDepth 100000
set_option maxHeartbeats 4000000
/-! DL18: figures over a chain, the greatest size first. -/
namespace DL
open PySem PySem.Spec PyProof.Rows L2
variable [TabsC]
theorem mul_lim {i j : Int} (h1 : -(10 ^ 240) < i) (h2 : i < 10 ^ 240) (h3 : -(10 ^ 240) < j) (h4 : j < 10 ^ 240) : IntMulOk i j := CMulW.ok (by
  have a := log2_lim h1 h2
  have b := log2_lim h3 h4
  unfold CMulW
  omega)
theorem atI_0 {x : D} {r : List D} : atI (x :: r) 0 = some x := by
  unfold atI ixN
  rw [if_pos (by decide), if_pos (by rw [List.length_cons]; omega)]
  rfl
theorem atI_1 {x y : D} {r : List D} : atI (x :: y :: r) 1 = some y := by
  unfold atI ixN
  rw [if_pos (by decide), if_pos (by rw [List.length_cons, List.length_cons]; omega)]
  rfl
theorem cut_01 {x : D} {r : List D} : cutL (x :: r) none (some 1) = [x] := by
  unfold cutL
  rw [HT.sIx_none, show HT.sIx (x :: r).length (x :: r).length (some 1) = min 1 (x :: r).length from HT.sIx_nat _ _ 1, show min 1 (x :: r).length = 1 by rw [List.length_cons]; omega]
  rfl
theorem atI_end {xs : List D} {y : D} : atI (xs ++ [y]) (-1) = some y := by
  unfold atI ixN
  rw [if_neg (by decide), if_pos (by rw [List.length_append, List.length_singleton]; omega)]
  show (xs ++ [y])[((-1 : Int) + ((xs ++ [y]).length : Int)).toNat]? = some y
  rw [show ((-1 : Int) + ((xs ++ [y]).length : Int)).toNat = xs.length by rw [List.length_append, List.length_singleton]; omega, List.getElem?_append_right (Nat.le_refl _), Nat.sub_self]
  rfl
end DL
set_option Elab.async false
set_option linter.all false
set_option maxRecDepth 100000
set_option maxHeartbeats 4000000
/-! DL19: stars in displays; max(.., key=len) of tuples, with a default or without. -/
namespace DL
open PySem PySem.Spec PyProof.Rows L2
variable [TabsC]
section
variable {X : Cx} {W : WX} {a b c e e2 o : Expr} {es : List Expr} {ba bb : Bool} {ma mb mc : TM} {la : LM} {pos p p2 pos2 : Pos} {x y : Str} {k : Nat}
/-! ### *e -/
def mStar (ma : TM) (la : LM) : LM := fun δ P E => ma δ (fun d => ∃ xs, (d = .tup xs ∨ d = .list xs) ∧ la δ (fun ds => P (xs ++ ds)) E) E
theorem RVs.append {K : PySem.W.Frag} {fo ls : List Addr} {H : Hp} {b : Bool} : ∀ {vs ws : List V} {ds es : List D}, RVs K fo ls H b vs ds → RVs K fo ls H b ws es → RVs K fo ls H b (vs ++ ws) (ds ++ es)
  | _, _, _, _, .nil, h => h
  | _, _, _, _, .cons r t, h => .cons r (RVs.append t h)
/-! ### max by length -/
/-! over data -/
def LongestD (ts : List (List D)) (i : Nat) : Prop := i < ts.length ∧ (∀ j, j < ts.length → (ts.getD j []).length ≤ (ts.getD i []).length) ∧ ∀ j, j < i → (ts.getD j []).length < (ts.getD i []).length
def mMaxLenD (la : LM) (md : TM) : TM := fun δ Q E => la δ (fun ds => md δ (fun d => ∃ ts : List (List D), ds = [.list (ts.map .tup)] ∧ (ts = [] → Q d) ∧ ∀ i, LongestD ts i → Q (.tup (ts.getD i []))) E) E
end
end DL
set_option Elab.async false
set_option linter.all false
set_option maxRecDepth 100000
set_option maxHeartbeats 4000000
/-! DL20: dicts: d[k] = e, d[k], comprehensions over a dict's keys. -/
namespace DL
open PySem PySem.Spec PyProof.Rows L2
variable [TabsC]
theorem RepKs.len {K : PySem.W.Frag} {H : Hp} : ∀ {vs : List (Key × V)} {ds : List (Key × D)}, RepKs K H vs ds → vs.length = ds.length
  | _, _, .nil => rfl
  | _, _, .cons _ r => by rw [List.length_cons, List.length_cons, RepKs.len r]
theorem kV_of {K : PySem.W.Frag} {fo ls : List Addr} {H : Hp} {b : Bool} {v : V} {k : Key} (r : RV K fo ls H b v (keyD k)) : v = kV k := by
  cases k with
  | inl i => exact r.isInt
  | inr z => exact r.isStr
theorem putK_len (kvs : List (Key × V)) (k : Key) (v : V) : (putK kvs k v).length ≤ kvs.length + 1 := by
  unfold putK
  split
  · rw [List.length_map]; omega
  · rw [List.length_append, List.length_singleton]; omega
section
variable {X : Cx} {W : WX} {a b c e e2 o : Expr} {es : List Expr} {ba bb : Bool} {ma mb mc mk : TM} {la : LM} {pos p p2 pos2 : Pos} {x y : Str} {k : Nat}
/-! ### d[k] = e -/
def sPut (i : Nat) (mk mv : TM) : SM := fun δ κ => mv δ (fun v => ∃ ds, δ[i]? = some (.m (.dict ds)) ∧ mk δ (fun kd => ∃ key : Key, kd = keyD key ∧ ds.length < sizeLine ∧ κ.nx (δ.set i (.m (.dict (putD ds key v))))) (κ.er δ)) (κ.er δ)
theorem ds_put (i : Nat) {ie : Expr} {p1 : Pos} (hu : X.A.units + 1 < cLine) (ho : PE X (.Name x p) (tVar i)) (hi : DE X W ie bb mk) (hv : DE X W e false ma) (hs : swapsWith e (some (.Subscript (.Name x p) ie p1)) pos.line X.env = pure false := by rfl) :
    DS X W (.Assign [.Subscript (.Name x p) ie p1] e pos) (sPut i mk ma) :=
  PS.imp (ps_dput hu ho hi hv hs) fun D σ H ⟨F, own, δ, κ, E, h, L⟩ => by
    refine ⟨F, own, δ, _, _, L.at E, h, fun d v H1 ⟨ds, hd, m1⟩ s1 r1 => ?_⟩
    have E1 := E.grow s1
    obtain ⟨a, kvs, e1, ha, h1, h2, h3⟩ := E1.dic hd
    refine ⟨_, e1, F, own, δ, _, _, (L.at E).on s1, m1, fun kd kv H2 ⟨key, ek, hz, m2⟩ s2 r2 => ?_⟩
    subst ek
    have ekv := kV_of r2
    subst ekv
    have h1' := s2 _ _ h1
    have hz' : kvs.length < sizeLine := by rw [h3.len]; exact hz
    refine ⟨a, _, rfl, .inl ⟨kvs, key, h1', rfl, hz', rfl⟩, L.nx _ _ own _ ((E1.grow s2).put hd e1 h1' (.md (E.sep a ha) upd_same ?_ ?_)) m2⟩
    · have := putK_len kvs key v
      omega
    · rw [sub_upd (List.mem_append_right _ ha)]
      exact (h3.mono (sub_same s2)).put (r1.clean.mono (sub_same s2))
/-! ### d[k] -/
def mDGet (ma mk : TM) : TM := fun δ Q E => ma δ (fun d => mk δ (fun kd => ∃ ds : List (Key × D), d = .dict ds ∧ ∃ key : Key, kd = keyD key ∧ ∃ v : D, valD ds key = some v ∧ Q v) E) E
theorem de_dget {ie : Expr} (hu : X.A.units + 1 < cLine) (ho : DE X W o ba ma) (hi : DE X W ie bb mk) (hs : NoSl ie) : DE X W (.Subscript o ie pos) false (mDGet ma mk) :=
  PE.imp (pe_dget hu ho hi hs) fun σ H Q ⟨F, own, δ, P, EK, A, m, q⟩ => ⟨F, own, δ, _, EK, A, m, fun d v H1 m1 s1 r1 => ⟨F, own, δ, _, EK, A.on s1, m1, fun kd kv H2 ⟨ds, ed, key, ek, w, hv, m2⟩ s2 r2 => by
    subst ed ek
    have ekv := kV_of r2
    subst ekv
    obtain ⟨a, kvs, rfl, h1, h2, h3⟩ := (r1.mono s2.ob).dict
    obtain ⟨u, hu', ru⟩ := h3.val key hv
    exact ⟨a, u, rfl, .inl ⟨kvs, key, h1, rfl, hu'.symm⟩, q _ _ H2 m2 (s1.trans s2) (.cl ru)⟩⟩⟩
end
/-! ### d.get(k), d.get(k, e) -/
def mDGet2 (ma mk mv : TM) : TM := fun δ Q E => ma δ (fun d => ∃ ds : List (Key × D), d = .dict ds ∧ mk δ (fun kd => mv δ (fun v => ∃ key : Key, kd = keyD key ∧ Q ((valD ds key).getD v)) E) E) E
theorem de_dget2 {apos : Pos} (hu : X.A.units + 1 < cLine) (ho : DE X W o ba ma) (hi : DE X W e bb mk) (hv : DE X W e2 false mc) (m : M2 X o "get" apos e e2 pos) : DE X W (.Call (.Attribute o "get" apos) [e, e2] [] pos) false (mDGet2 ma mk mc) :=
  PE.imp (pe_dget2 hu ho hi hv m) fun σ H Q ⟨F, own, δ, P, EK, A, mm, q⟩ => ⟨F, own, δ, _, EK, A, mm, fun d v H1 ⟨ds, ed, m1⟩ s1 r1 => by
    subst ed
    obtain ⟨a, kvs, rfl, h1, h2, h3⟩ := r1.dict
    refine ⟨a, rfl, .inl ⟨kvs, h1⟩, F, own, δ, _, EK, A.on s1, m1, fun kd kv H2 m2 s2 r2 => ⟨F, own, δ, _, EK, A.on (s1.trans s2), m2, fun vd vv H3 ⟨key, ek, m3⟩ s3 r3 => ?_⟩⟩
    subst ek
    have ekv := kV_of r2
    subst ekv
    have h1' := rdMono (s2.trans s3).ob h1
    have h3' := h3.mono (sub_same (s2.trans s3).ob)
    refine ⟨valV kvs key, .inl ⟨kvs, key, h1', rfl, rfl⟩, ?_⟩
    cases e : valD ds key with
    | some w =>
      rw [e] at m3
      obtain ⟨u, hu', ru⟩ := h3'.val key e
      rw [hu']
      exact q _ _ H3 m3 ((s1.trans s2).trans s3) (.cl ru)
    | none =>
      rw [e] at m3
      rw [h3'.none key e]
      exact q _ _ H3 m3 ((s1.trans s2).trans s3) r3⟩
/-! ### the lock -/
section
variable {X : Cx} {W : WX} {pos p : Pos} {x : Str}
/-- [elt for tg in d if ..], d one's own dict; what comes are ints -/
def mCompK (i : Nat) (vs : List Nat) (g : GM) (mt : BM) (me : TM) : TM := fun δ Q E => ∃ ds : List (Key × D), δ[i]? = some (.m (.dict ds)) ∧ compL g mt me (wipeD (δ.set i (.v (.dict ds))) vs) (ds.map fun kv => keyD kv.1) [] (fun d => ∃ ns : List Int, d = .list (ns.map .int) ∧ Q d)
end
/-! ### walks over a dict that stays -/
theorem RepKs.get {K : PySem.W.Frag} {H : Hp} : ∀ {vs : List (Key × V)} {ds : List (Key × D)} {i : Nat} {k : Key} {v : V}, RepKs K H vs ds → vs[i]? = some (k, v) → ∃ d, ds[i]? = some (k, d) ∧ Rep K H v d
  | _, _, _, _, _, .nil, e => by simp at e
  | _, _, 0, _, _, .cons r _, e => by cases e; exact ⟨_, rfl, r⟩
  | _, _, i + 1, _, _, .cons _ t, e => by
    obtain ⟨d, h1, h2⟩ := RepKs.get (i := i) t (by simpa using e)
    exact ⟨d, by simpa using h1, h2⟩
theorem rep_key {K : PySem.W.Frag} {H : Hp} (k : Key) : Rep K H (kV k) (keyD k) := by
  cases k with
  | inl i => exact .int i
  | inr z => exact .str z
def pairKD (kv : Key × D) : D := .tup [keyD kv.1, kv.2]
theorem itok_items {K : PySem.W.Frag} {Hg Hb : Hp} {a : Addr} {od : Obj} {kvs : List (Key × V)} {ds : List (Key × D)} (h : Hg a = some (.frz od (.dK kvs))) (hz : kvs.length ≤ sizeLine) (r : RepKs K Hb kvs ds) : ItOk K (Iti a od kvs) Hg Hb (ds.map pairKD) where
  sz := by rw [List.length_map, ← r.len]; exact hz
  go := fun i H s hi => ⟨s _ _ h, by rw [List.length_map, ← r.len] at hi; exact hi⟩
  stop := fun i H s hi => ⟨s _ _ h, by rw [List.length_map, ← r.len] at hi; omega⟩
  yld := fun i H x H' ls s sb ht hi ⟨T, k, v, ek, ex, hT, eH⟩ => by
    subst ex eH
    obtain ⟨d, h1, h2⟩ := r.get ek
    exact ⟨pairKD (k, d), by rw [List.getElem?_map, h1]; rfl, same_upd hT, new_tup ht hT (by show 2 ≤ sizeLine; rw [sizeLine_eq]; decide) (.cons (rep_key k) (.cons (h2.mono sb) .nil))⟩
theorem RV.plainDict {K : PySem.W.Frag} {fo ls : List Addr} {H : Hp} {v : V} {ds : List (Key × D)} (r : RV K fo ls H false v (.dict ds)) : ∃ a od kvs, v = .ref a ∧ sub H ls a = some (.frz od (.dK kvs)) ∧ kvs.length ≤ sizeLine ∧ RepKs K (sub H ls) kvs ds := by
  cases r with
  | cl r =>
    cases r with
    | dict h l r => exact ⟨_, _, _, rfl, h, l, r⟩
theorem flo_at {H : Hp} {ls : List Addr} {a : Addr} {u : HO} {b : Bool} (h : sub H ls a = some u) (n : isTbl u = false := by rfl) : flo b H ls a = some u := by
  unfold flo
  split
  · exact sub_le.get _ _ h n
  · exact h
def mKeys (ma : TM) : LM := fun δ P E => ma δ (fun d => ∃ ds : List (Key × D), d = .dict ds ∧ P (ds.map fun kv => keyD kv.1)) E
def mVals (ma : TM) : LM := fun δ P E => ma δ (fun d => ∃ ds : List (Key × D), d = .dict ds ∧ P (ds.map (·.2))) E
def mItems (ma : TM) : LM := fun δ P E => ma δ (fun d => ∃ ds : List (Key × D), d = .dict ds ∧ P (ds.map pairKD)) E
section
variable {X : Cx} {W : WX} {e tg : Expr} {ba : Bool} {ma : TM} {apos cpos : Pos}
theorem di_items {elts : List Expr} {kk : Nat} {tpos : Pos} (he : DE X W e false ma) (hbase : attributeBase e "items" X.env (eval e X.env) = eval e X.env := by rfl) (hline : (apos.endLine == cpos.line) = true := by rfl) : DI X W (.Tuple elts kk tpos) (.Call (.Attribute e "items" apos) [] [] cpos) ba (mItems ma) :=
  PI.imp (pi_items he hbase hline) fun σ H R ⟨F, own, δ, P, EK, A, m, q⟩ => ⟨F, own, δ, _, EK, A, m, fun d v H1 ⟨ds, ed, p⟩ s r => by
    subst ed
    obtain ⟨a, od, kvs, rfl, h1, h2, h3⟩ := r.plainDict
    exact ⟨a, od, kvs, rfl, sub_le _ _ h1, q _ _ H1 p s (itok_items (flo_at h1) h2 h3)⟩⟩
end
end DL
set_option Elab.async false
set_option linter.all false
set_option maxRecDepth 100000
set_option maxHeartbeats 4000000
/-! DL21: instances of own classes: fields, methods, properties, making. -/
namespace DL
open PySem PySem.Spec PyProof.Rows L2
variable [TabsC]
theorem RV.obj {K : PySem.W.Frag} {fo ls : List Addr} {H : Hp} {b : Bool} {v : V} {n : Str} {ds : List (Str × D)} (r : RV K fo ls H b v (.obj n ds)) : ∃ C a dx fs, PySem.W.nsIn K mainGlobals n = some (some (.ref C)) ∧ v = .ref a ∧ H a = some (.ins C dx fs) ∧ RepFs K (sub H ls) fs ds := by
  cases r with
  | cl r =>
    cases r with
    | obj c h r => exact ⟨_, _, _, _, c, rfl, sub_le _ _ h, r⟩
  | mo _ c h r => exact ⟨_, _, _, _, c, rfl, h, r⟩
theorem RepFs.get {K : PySem.W.Frag} {H : Hp} {f : Str} : ∀ {vs : List (Str × V)} {ds : List (Str × D)} {d : D}, RepFs K H vs ds → ds.lookup f = some d → ∃ v, vs.lookup f = some v ∧ Rep K H v d
  | _, _, _, .nil, e => by cases e
  | _, _, _, @RepFs.cons _ _ g v vs d ds h r, e => by
    rw [List.lookup_cons] at e ⊢
    cases hb : f == g with
    | true =>
      rw [hb] at e
      cases e
      exact ⟨v, rfl, h⟩
    | false =>
      rw [hb] at e
      exact RepFs.get r e
theorem RepFs.miss {K : PySem.W.Frag} {H : Hp} {f : Str} : ∀ {vs : List (Str × V)} {ds : List (Str × D)}, RepFs K H vs ds → ds.lookup f = none → vs.lookup f = none
  | _, _, .nil, _ => rfl
  | _, _, @RepFs.cons _ _ g v vs d ds h r, e => by
    rw [List.lookup_cons] at e ⊢
    cases hb : f == g with
    | true => rw [hb] at e; cases e
    | false =>
      rw [hb] at e
      exact RepFs.miss r e
theorem RepFs.len {K : PySem.W.Frag} {H : Hp} : ∀ {vs : List (Str × V)} {ds : List (Str × D)}, RepFs K H vs ds → vs.length = ds.length
  | _, _, .nil => rfl
  | _, _, .cons _ r => by rw [List.length_cons, List.length_cons, RepFs.len r]
def putFD (f : Str) (y : D) : List (Str × D) → List (Str × D)
  | [] => [(f, y)]
  | (g, x) :: r => if g = f then (g, y) :: r else (g, x) :: putFD f y r
theorem RepFs.put {K : PySem.W.Frag} {H : Hp} {f : Str} {y : V} {d : D} (h : Rep K H y d) : ∀ {vs : List (Str × V)} {ds : List (Str × D)}, RepFs K H vs ds → RepFs K H (putF f y vs) (putFD f d ds)
  | _, _, .nil => .cons h .nil
  | _, _, @RepFs.cons _ _ g v vs d' ds h' r => by
    unfold putF putFD
    by_cases e : g = f
    · rw [if_pos e, if_pos e]; exact .cons h r
    · rw [if_neg e, if_neg e]; exact .cons h' (RepFs.put h r)
section
variable {X : Cx} {W : WX} {a b c e e2 o : Expr} {es : List Expr} {ba bb : Bool} {ma mb mo : TM} {la : LM} {pos p apos : Pos} {n f mn x : Str} {k : Nat} {C g q0 : Addr} {m : FM} {mm : MM}
/-! ### e.f -/
def mFld (n : Str) (ma : TM) (f : Str) : TM := fun δ Q E => ma δ (fun d => ∃ ds : List (Str × D), d = .obj n ds ∧ ∃ v : D, ds.lookup f = some v ∧ Q v) E
theorem de_fld (hC : PySem.W.nsIn X.K mainGlobals n = some (some (.ref C))) (cl : Cls X.K C) (na : NoAttr X.K C f) (he : DE X W e ba ma) (hb : attributeBase e f X.env (eval e X.env) = eval e X.env := by rfl) : DE X W (.Attribute e f pos) false (mFld n ma f) :=
  PE.imp (pe_fld he hb) fun σ H Q ⟨F, own, δ, P, EK, A, m, q⟩ => ⟨F, own, δ, _, EK, A, m, fun d v H1 ⟨ds, ed, w, hl, m1⟩ s1 r1 => by
    subst ed
    obtain ⟨C', a, dx, fs, hC', rfl, h1, h2⟩ := r1.obj
    rw [hC] at hC'
    cases hC'
    obtain ⟨u, hu, ru⟩ := h2.get hl
    exact ⟨a, C, dx, fs, u, rfl, h1, cl, na, hu, q _ _ H1 m1 s1 (.cl ru)⟩⟩
/-- self.f of a self that is lent -/
def mSFld (i : Nat) (n f : Str) : TM := fun δ Q _ => ∃ ds : List (Str × D), δ[i]? = some (.s (.obj n ds)) ∧ ∃ v : D, ds.lookup f = some v ∧ Q v
theorem de_sfld (i : Nat) (hC : PySem.W.nsIn X.K mainGlobals n = some (some (.ref C))) (cl : Cls X.K C) (na : NoAttr X.K C f) (hv : PE X (.Name x p) (tVar i)) (hb : attributeBase (.Name x p) f X.env (eval (.Name x p) X.env) = eval (.Name x p) X.env := by rfl) : DE X W (.Attribute (.Name x p) f pos) false (mSFld i n f) :=
  PE.imp (pe_fld hv hb) fun σ H Q ⟨F, own, δ, P, EK, A, ⟨ds, e, w, hl, m⟩, q⟩ => by
    obtain ⟨s, hs, a, C', dx, n', fs, ds', rfl, ha, ed, hC', h1, h2⟩ := A.env.slot i _ e
    cases ed
    rw [hC] at hC'
    cases hC'
    obtain ⟨u, hu, ru⟩ := h2.get hl
    exact ⟨_, hs, a, C, dx, fs, u, rfl, h1, cl, na, hu, q _ _ H m (Same.refl H) (.cl ru)⟩
/-! ### o.f = e, o one's own or lent -/
def sFld (i : Nat) (n f : Str) (ma : TM) : SM := fun δ k => ma δ (fun v => ∃ ds : List (Str × D), ds.length < 900 ∧ ((δ[i]? = some (.s (.obj n ds)) ∧ k.nx (δ.set i (.s (.obj n (putFD f v ds))))) ∨ (δ[i]? = some (.m (.obj n ds)) ∧ k.nx (δ.set i (.m (.obj n (putFD f v ds))))))) (k.er δ)
theorem own_obj {K : PySem.W.Frag} {F : Fm} {own : List Addr} {σ : L2.St} {δ : List DV} {H : Hp} (E : EnvD K F own σ δ H) {i : Nat} {n : Str} {ds : List (Str × D)} (h : δ[i]? = some (.m (.obj n ds))) : ∃ C a dx fs, PySem.W.nsIn K mainGlobals n = some (some (.ref C)) ∧ σ[i]? = some (some (.ref a)) ∧ a ∈ own ∧ H a = some (.ins C dx fs) ∧ RepFs K (sub H (F.ls0 ++ own)) fs ds := by
  obtain ⟨s, e1, a, rfl, ha, r⟩ := E.slot i _ h
  cases r with
  | cl r =>
    cases r with
    | obj c h1 r => rw [sub_in (List.mem_append_right _ ha)] at h1; cases h1
  | mo _ c h1 r => exact ⟨_, a, _, _, c, e1, ha, h1, r⟩
theorem ds_fld (i : Nat) {value : Expr} {pos' : Pos} (hC : PySem.W.nsIn X.K mainGlobals n = some (some (.ref C))) (cl : Cls X.K C) (na : NoAttr X.K C f) (hv : PE X (.Name x p) (tVar i)) (he : DE X W value false ma) (hs : swapsWith value (some (.Attribute (.Name x p) f pos')) pos.line X.env = pure false := by rfl) :
    DS X W (.Assign [.Attribute (.Name x p) f pos'] value pos) (sFld i n f ma) :=
  PS.imp (ps_fld hv he hs) fun D σ H ⟨F, own, δ, κ, E, h, L⟩ => ⟨F, own, δ, _, _, L.at E, h, fun v y H1 ⟨ds, hl, m1⟩ s1 r1 => by
    have E1 := E.grow s1
    rcases m1 with ⟨e, m1⟩ | ⟨e, m1⟩
    · obtain ⟨s, hs, a, C', dx, n', fs, ds', rfl, ha, ed, hC', h1, h2⟩ := E1.slot i _ e
      cases ed
      rw [hC] at hC'
      cases hC'
      have hin : a ∈ F.ls0 ++ own := List.mem_append_left _ ha
      refine ⟨_, hs, a, C, dx, fs, rfl, h1, cl, na, by rw [h2.len]; omega, L.nx σ _ own _ (E1.turnS e hs h1 same_put hC upd_same ?_) m1⟩
      rw [sub_upd hin]
      exact h2.put r1.clean
    · obtain ⟨C', a, dx, fs, hC', hs, ha, h1, h2⟩ := own_obj E1 e
      rw [hC] at hC'
      cases hC'
      refine ⟨_, hs, a, C, dx, fs, rfl, h1, cl, na, by rw [h2.len]; omega, L.nx σ _ own _ (E1.put e hs h1 (.mo (E1.sep a ha) hC upd_same ?_)) m1⟩
      rw [sub_upd (List.mem_append_right _ ha)]
      exact h2.put r1.clean⟩
/-! ### o.m(e, ..), o plain -/
def mMeth (n mn : Str) (m : FM) (mo : TM) (la : LM) : TM := fun δ Q E => mo δ (fun d => ∃ fs : List (Str × D), d = .obj n fs ∧ fs.lookup mn = none ∧ la δ (fun ds => m (d :: ds) Q E) E) E
theorem de_meth {pl : Sem Bool} (hC : PySem.W.nsIn X.K mainGlobals n = some (some (.ref C))) (cl : Cls X.K C) (F : FnD X.prog X.w X.K X.mg X.base k g m) (hm : Meth X.K C mn g) (hG : GdOk X.A X.base) (hr : Room k X.A) (tk : Takes X W)
    (ho : DE X W o ba mo) (hcl : ba = false) (ha : DA X W (e :: es) false la) (hst : starEach (e :: es) X.env = (false, eval e X.env) :: starEach es X.env := by rfl) (hpl : (backTo pos (starEach es X.env)).any (·.1) = false := by rfl)
    (ht : eval (.Call (.Attribute o mn apos) (e :: es) [] pos) X.env = (do
      let ov ← eval o X.env
      standAt apos.atName
      let (f, first) ← holding [ov] (getMethod ov mn pl)
      callWith pos f first (backTo pos (starEach (e :: es) X.env)) (backToKw pos (keywordEach [] X.env))) := by rfl) : DE X W (.Call (.Attribute o mn apos) (e :: es) [] pos) false (mMeth n mn m mo la) := by
  subst hcl
  refine ⟨fun pins s σ H Q I ⟨FF, own, δ, P, EK, A, mm, q⟩ => ?_⟩
  refine PySem.W.methodCall_KW (pl := pl) (thn (ho.run pins s σ H (fun x H1 => ∃ fs : List (Str × D), fs.lookup mn = none ∧ (la δ (fun ds => m (.obj n fs :: ds) P EK) EK) ∧ Same H H1 ∧ Rep X.K (sub H1 (FF.ls0 ++ own)) x (.obj n fs)) I ⟨FF, own, δ, _, EK, A, mm, fun d v H1 ⟨fs, ed, hl0, m1⟩ s1 r1 => by
    subst ed
    exact ⟨fs, hl0, m1, s1, r1.clean⟩⟩) fun u s1 ⟨x, H1, I1, rx, fs, hl0, m1, s01, ro⟩ => ?_) ht
  obtain ⟨C', a, dx, vs, hC', rfl, h1, h2⟩ := (RV.cl ro : RV X.K FF.ls0 _ H1 false x _).obj
  rw [hC] at hC'
  cases hC'
  obtain rfl : u = Value.ref a := rx
  refine getmeth_ok I1 h1 cl hm (h2.miss hl0) ?_
  have A0 := A.on s01
  refine PySem.W.callWith_K (first := [.ref a]) (h₀ := X.base) I1.ok.mod.kin hm.kp (thn (ha.run pos pins s1 σ H1 (fun vs H2 => ∃ ds, m (.obj n fs :: ds) P EK ∧ Same H1 H2 ∧ RVs X.K FF.ls0 (FF.ls0 ++ own) H2 false vs ds) I1
    ⟨FF, own, δ, _, EK, A0, m1, fun ds vs H2 p1 s2 r2 => ⟨ds, p1, s2, r2⟩⟩) fun us s2 ⟨ws, H2, I2, rv, ds, hm1, s12, rr⟩ => ⟨I2.kIn, ?_⟩) hst hpl
  have A2 := A0.on s12
  exact runP (us := .ref a :: us) (vs := .ref a :: ws) F hG hr tk (E := fun cls dd H' => W cls dd σ H') (fun _ _ _ h => h) I2 (.cons rfl rv)
    ⟨FF.ls0 ++ own, .obj n fs :: ds, P, EK, A2.env.trk, A2.tabs, .cons (ro.mono (sub_same s12.ob)) rr.clean, hm1, fun d v H' pd s3 r3 => q d v H' pd ((s01.trans s12).trans s3) (.cl r3), fun er cls dd H' ke s3 r3 => A2.pass er cls dd H' ke s3 r3⟩
def mMeth0 (n mn : Str) (m : FM) (mo : TM) : TM := fun δ Q E => mo δ (fun d => ∃ fs : List (Str × D), d = .obj n fs ∧ fs.lookup mn = none ∧ m [d] Q E) E
theorem de_meth0 {pl : Sem Bool} (hC : PySem.W.nsIn X.K mainGlobals n = some (some (.ref C))) (cl : Cls X.K C) (F : FnD X.prog X.w X.K X.mg X.base k g m) (hm : Meth X.K C mn g) (hG : GdOk X.A X.base) (hr : Room k X.A) (tk : Takes X W) (ho : DE X W o ba mo) (hcl : ba = false)
    (ht : eval (.Call (.Attribute o mn apos) [] [] pos) X.env = (do
      let ov ← eval o X.env
      standAt apos.atName
      let (f, first) ← holding [ov] (getMethod ov mn pl)
      callWith pos f first (backTo pos (starEach [] X.env)) (backToKw pos (keywordEach [] X.env))) := by rfl) : DE X W (.Call (.Attribute o mn apos) [] [] pos) false (mMeth0 n mn m mo) := by
  subst hcl
  refine ⟨fun pins s σ H Q I ⟨FF, own, δ, P, EK, A, mm, q⟩ => ?_⟩
  refine PySem.W.methodCall_KW (pl := pl) (thn (ho.run pins s σ H (fun x H1 => ∃ fs : List (Str × D), fs.lookup mn = none ∧ m [.obj n fs] P EK ∧ Same H H1 ∧ Rep X.K (sub H1 (FF.ls0 ++ own)) x (.obj n fs)) I ⟨FF, own, δ, _, EK, A, mm, fun d v H1 ⟨fs, ed, hl0, m1⟩ s1 r1 => by
    subst ed
    exact ⟨fs, hl0, m1, s1, r1.clean⟩⟩) fun u s1 ⟨x, H1, I1, rx, fs, hl0, m1, s01, ro⟩ => ?_) ht
  obtain ⟨C', a, dx, vs, hC', rfl, h1, h2⟩ := (RV.cl ro : RV X.K FF.ls0 _ H1 false x _).obj
  rw [hC] at hC'
  cases hC'
  obtain rfl : u = Value.ref a := rx
  refine getmeth_ok I1 h1 cl hm (h2.miss hl0) ?_
  have A0 := A.on s01
  exact PySem.W.callWith_K0 I1.kIn hm.kp (runP (us := [.ref a]) (vs := [.ref a]) F hG hr tk (E := fun cls dd H' => W cls dd σ H') (fun _ _ _ h => h) I1 (.cons rfl .nil)
    ⟨FF.ls0 ++ own, [.obj n fs], P, EK, A0.env.trk, A0.tabs, .cons ro .nil, m1, fun d v H' pd s3 r3 => q d v H' pd (s01.trans s3) (.cl r3), fun er cls dd H' ke s3 r3 => A0.pass er cls dd H' ke s3 r3⟩)
/-! ### e.f, a property -/
def mProp (n : Str) (m : FM) (ma : TM) : TM := fun δ Q E => ma δ (fun d => ∃ fs : List (Str × D), d = .obj n fs ∧ m [d] Q NoE) E
theorem CR_none {P : Program} {w : World} {outer : List Env} {H : Hp} {s s' : Shared} {Q : VK} {e : Value} {E : XK} (hE : ∀ cls dd H', ¬ E cls dd H') (h : CR (L2.CX P w) outer P w H s Q E (.error e) s') : False := by
  obtain ⟨_, _, _, _, _, _, _, _, _, _, _, _, z⟩ := h
  exact hE _ _ _ z
theorem de_prop {pp gg : Addr} (hC : PySem.W.nsIn X.K mainGlobals n = some (some (.ref C))) (cl : Cls X.K C) (hp : PropOf X.K C f pp gg) (F : FnD X.prog X.w X.K X.mg X.base k gg m) (hG : GdOk X.A X.base) (hr : Room (k + 1) X.A) (he : DE X W e ba ma) (hcl : ba = false)
    (hab : attributeBase e f X.env (eval e X.env) = eval e X.env := by rfl) : DE X W (.Attribute e f pos) false (mProp n m ma) := by
  subst hcl
  refine ⟨fun pins s σ H Q I ⟨FF, own, δ, P, EK, A, mm, q⟩ => ?_⟩
  refine attr_of hab (thn (he.run pins s σ H (fun x H1 => ∃ fs : List (Str × D), m [.obj n fs] P NoE ∧ Same H H1 ∧ Rep X.K (sub H1 (FF.ls0 ++ own)) x (.obj n fs)) I ⟨FF, own, δ, _, EK, A, mm, fun d v H1 ⟨fs, ed, m1⟩ s1 r1 => by
    subst ed
    exact ⟨fs, m1, s1, r1.clean⟩⟩) fun u s1 ⟨x, H1, I1, rx, fs, m1, s01, ro⟩ => ?_)
  obtain ⟨C', a, dx, vs, hC', rfl, h1, h2⟩ := (RV.cl ro : RV X.K FF.ls0 _ H1 false x _).obj
  rw [hC] at hC'
  cases hC'
  obtain rfl : u = Value.ref a := rx
  have A0 := A.on s01
  obtain ⟨mA, O, _, _, _, _⟩ := ins_get I1.hok h1
  obtain ⟨od, J, _⟩ := O.look
  obtain ⟨rest, hrec⟩ := hp.rec_
  have I2 := I1.tok (s1.toks + 1)
  have hcc : (PySem.W.clsIn X.K C).isSome = true := by
    obtain ⟨cd, hc, _⟩ := PySem.W.any_some cl.hd
    rw [hc]
    rfl
  refine PySem.W.get_bind I1.kIn J (PySem.W.plainGet_of (cl.get f)).1 (PySem.W.findObj_data hcc hp.at_ hp.get hp.tak) (PySem.W.plainGet_of (cl.get f)).2 (wpAny_call (PySem.W.prop_get (s := { s1 with toks := s1.toks + 1 }) I1.kIn hrec ?_))
  have sp : spD X.K m [.ref a] H1 (fun v H' => Q v H') (fun _ _ _ => False) := ⟨FF.ls0 ++ own, [.obj n fs], P, NoE, A0.env.trk, A0.tabs, .cons ro .nil, m1, fun d v H' pd s3 r3 => q d v H' pd (s01.trans s3) (.cl r3), fun _ _ _ _ z => z.elim⟩
  refine codeAny_mono (F X.A.in1 X.stack { s1 with toks := s1.toks + 1 } H1 [.ref a] [.ref a] _ _ hG hr.in1 I2.env0.in1 (.cons rfl .nil) sp) fun r s2 hq => ?_
  cases r with
  | error er => exact (CR_none (fun _ _ _ z => z) hq).elim
  | ok fl =>
    cases fl with
    | ret u =>
      obtain ⟨v, H', I3, rv, q3⟩ := I2.after hq
      show wpAny _ _ (handedOut u) _ _ _
      rw [PySem.W.handedOut_of (handed_of rv)]
      exact wpAny_pure ⟨v, H', I3, rv, q3⟩
    | next => exact False.elim hq
    | brk => exact False.elim hq
    | cont => exact False.elim hq
/-! ### C(e, ..) -/
def mMake (n : Str) (m : MM) (la : LM) : TM := fun δ Q E => la δ (fun ds => m (.obj n []) ds (fun d r => r = .none ∧ Q d) (fun _ er => E er)) E
theorem new_ins {K : PySem.W.Frag} {H : Hp} {x dx C : Addr} {ls : List Addr} (nx : H x = none) (nd : H dx = none) (ne : dx ≠ x) (ht : ∀ l, l ∈ ls → ∃ o, H l = some o ∧ Plain o) : Same H (upd (upd H dx (.own x)) x (.ins C dx [])) ∧ Grow (sub H ls) (sub (upd (upd H dx (.own x)) x (.ins C dx [])) (x :: ls)) := by
  have s : Same H (upd (upd H dx (.own x)) x (.ins C dx [])) := Same.of fun b o q => by
    rw [upd_ne (ne_of_none q nx), upd_ne (ne_of_none q nd)]; exact q
  exact ⟨s, sub_fresh nx s⟩
theorem run_new {f0 : Addr} {pins : List (Addr × Obj)} {σ : L2.St} {H : Hp} {s : Shared} {us : List Value} {vs : List V} {sp : Sp} {Q : VK} {E : XK} (M : Mk X.K C f0) (F : FnP X.prog X.w X.K X.mg X.base k f0 sp) (hG : GdOk X.A X.base) (hr : Room (k + 1) X.A) (tk : Takes X W) (hE : ∀ cls dd H', E cls dd H' → W cls dd σ H') (I : Inv X pins σ H s) (r : Vals vs us)
    (h : ∀ x dx, H x = none → H dx = none → dx ≠ x → sp (V.ref x :: vs) (upd (upd H dx (.own x)) x (.ins C dx [])) (fun v H2 => v = .non ∧ Q (.ref x) H2) E) : wpAny (model X.prog X.w) X.A (call (.ref C) us) (EP X pins σ Q) X.xe s := by
  have hq := h (s.heap.objs.size + 1) s.heap.objs.size (I.hok.fresh (Nat.le_succ _)) (I.hok.fresh (Nat.le_refl _)) (Nat.ne_of_lt (Nat.lt_succ_self _))
  have I2 := Inv.made (C := C) I
  have r2 : Vals (V.ref (s.heap.objs.size + 1) :: vs) (Value.ref (s.heap.objs.size + 1) :: us) := .cons rfl r
  refine wpAny_call (make_map (f := f0) I.kIn M.makes M.init (beq_iff_eq.mp M.fn) (codeAny_mono (F _ X.stack _ _ (Value.ref (s.heap.objs.size + 1) :: us) _ _ E hG (hr.make C us []) (I2.env0.make C us []) r2 hq) fun r s' hq' => ?_))
  cases r with
  | error e => exact tk e s' (XE.of_call I2 hE hq')
  | ok fl =>
    cases fl with
    | ret u =>
      obtain ⟨v, H', I3, rv, ev, q3⟩ := I2.after hq'
      subst ev
      exact ⟨rv, ⟨V.ref (s.heap.objs.size + 1), H', I3, rfl, q3⟩⟩
    | next => exact False.elim hq'
    | brk => exact False.elim hq'
    | cont => exact False.elim hq'
/-- the wish of a making, from data -/
theorem make_sp {σ : L2.St} {H H1 : Hp} {F : Fm} {own : List Addr} {δ : List DV} {P : D → Prop} {EK : Er → Prop} {vs : List V} {ds : List D} {Q : VK} (hC : PySem.W.nsIn X.K mainGlobals n = some (some (.ref C))) (A : At X.K W σ H F own δ EK) (s01 : Same H H1) (rr : Reps X.K (sub H1 (F.ls0 ++ own)) vs ds)
    (m1 : mm (.obj n []) ds (fun d r => r = .none ∧ P d) (fun _ er => EK er)) (q : ∀ d p H', P d → H p = none → Same H H' → FV X.K (p :: (F.ls0 ++ own)) H' p d → Q (.ref p) H') :
    ∀ x dx, H1 x = none → H1 dx = none → dx ≠ x → spM X.K mm (V.ref x :: vs) (upd (upd H1 dx (.own x)) x (.ins C dx [])) (fun v H2 => v = .non ∧ Q (.ref x) H2) (fun cls dd H' => W cls dd σ H') := by
  intro x dx nx nd ne
  have A1 := A.on s01
  obtain ⟨sa, ga⟩ := new_ins (K := X.K) (C := C) nx nd ne A1.env.trk
  have back : ∀ {H' : Hp}, Same (sub (upd (upd H1 dx (.own x)) x (.ins C dx [])) [x]) H' → Same H1 H' := fun {H'} s => by
    have z : Same H1 (sub (upd (upd H1 dx (.own x)) x (.ins C dx [])) [x]) := Same.of fun b o q => by
      rw [sub_out (by simpa using ne_of_none q nx), upd_ne (ne_of_none q nx), upd_ne (ne_of_none q nd)]; exact q
    exact z.trans s
  refine ⟨x :: (F.ls0 ++ own), x, C, dx, n, vs, [], [], ds, _, _, rfl, List.mem_cons_self, fun l hl => ?_, sa.tb A1.tabs, hC, upd_same, .nil, rr.mono ga, m1, fun n' dfs' d v H' C' dx' fs' ⟨ev, pd⟩ hn' s hx rf rv => ?_, fun n' dfs' er cls dd H' C' dx' fs' ke hn' s hx rf re => ?_⟩
  · rcases List.mem_cons.mp hl with rfl | hl
    · exact ⟨_, upd_same, plain_of⟩
    · obtain ⟨o, e, nn⟩ := A1.env.trk l hl
      exact ⟨o, sa.ob.get l o e nn.1, nn⟩
  · subst ev
    have e : v = .non := by cases rv; rfl
    exact ⟨e, q _ x H' pd (s01.free nx) (s01.trans (back s)) (.o hn' hx rf)⟩
  · exact A1.pass er cls dd H' ke (back s) (re.less fun a h => List.mem_cons_of_mem _ h)
theorem df_make {f0 : Addr} (hC : PySem.W.nsIn X.K mainGlobals n = some (some (.ref C))) (M : Mk X.K C f0) (F : FnM X.prog X.w X.K X.mg X.base k f0 mm) (hG : GdOk X.A X.base) (hr : Room (k + 1) X.A) (tk : Takes X W) (hg : Gl X n) (gC : X.mg n = some (.ref C)) (ha : DA X W (e :: es) false la) (hdb : (n == ("__debug__" : Str)) = false := by decide)
    (he : starEach (e :: es) X.env = (false, eval e X.env) :: starEach es X.env := by rfl) (hpl : (backTo pos (starEach es X.env)).any (·.1) = false := by rfl) : DF X W (.Call (.Name n p) (e :: es) [] pos) (mMake n mm la) := by
  refine ⟨fun pins s σ H Q I ⟨FF, own, δ, P, EK, A, m, q⟩ => ?_⟩
  refine wpAny_Call_Name_kw (ld_glob I hg gC ?_ hdb)
  refine PySem.W.callWith_K (h₀ := X.base) I.ok.mod.kin M.kp (thn (ha.run pos pins s σ H (fun vs H1 => ∃ ds, mm (.obj n []) ds (fun d r => r = .none ∧ P d) (fun _ er => EK er) ∧ Same H H1 ∧ Reps X.K (sub H1 (FF.ls0 ++ own)) vs ds) I
    ⟨FF, own, δ, _, EK, A, m, fun ds vs H1 p1 s1 r1 => ⟨ds, p1, s1, r1.clean⟩⟩) fun us s1 ⟨vs, H1, I1, rv, ds, m1, s01, rr⟩ => ⟨I1.kIn, ?_⟩) he hpl
  exact run_new M F hG hr tk (E := fun cls dd H' => W cls dd σ H') (fun _ _ _ h => h) I1 rv (make_sp hC A s01 rr m1 q)
/-- C(*e) -/
def mMakeS (n : Str) (m : MM) (ma : TM) : TM := fun δ Q E => ma δ (fun d => ∃ ds, (d = .tup ds ∨ d = .list ds) ∧ m (.obj n []) ds (fun d r => r = .none ∧ Q d) (fun _ er => E er)) E
end
/-! ### isinstance of own classes -/
def isClsD (n : Str) : D → Bool
  | .obj m _ => decide (m = n)
  | _ => false
def fIsiC (others : List Str) (n : Str) (d : D) (Q : D → Prop) : Prop := (d.tyn.isSome = true ∨ ∃ m fs, d = .obj m fs ∧ m ∈ others) ∧ Q (.bool (isClsD n d))
def mIsiC (others : List Str) (n : Str) (ma : TM) : TM := fun δ Q E => ma δ (fun d => fIsiC others n d Q) E
/-- .. of a class whose instances' kind is asked -/
structure InsTy (K : PySem.W.Frag) (C : Addr) : Prop where
  cl : Cls K C
  fc : PySem.W.findIn K (.ref C) "__class__" = some (some (.builtin "object.__class__"))
  sg : PySem.W.specialIn K (.builtin "object.__class__") "__get__" = some (some (.builtin "getset_descriptor.__get__"))
  tk : PySem.W.takesIn K (.builtin "object.__class__") = some true
  mo : PySem.W.mroIn K C (.type "object") = some true
/-- own classes among one another -/
structure KitOwn (K : PySem.W.Frag) (others : List Str) : Prop where
  two : ∀ (m n : Str) (Cm Cn : Addr), m ∈ others → n ∈ others → PySem.W.nsIn K mainGlobals m = some (some (.ref Cm)) → PySem.W.nsIn K mainGlobals n = some (some (.ref Cn)) → PySem.W.kitOne K (.ref Cm) (.ref Cn) = some (decide (m = n))
  ins : ∀ (m : Str) (Cm : Addr), m ∈ others → PySem.W.nsIn K mainGlobals m = some (some (.ref Cm)) → InsTy K Cm
theorem tyn_mem {d : D} {t : String} (h : d.tyn = some t) : t ∈ ownTys := by
  cases d <;> cases h <;> decide
section
variable {X : Cx} {W : WX} {a : Expr} {ba : Bool} {ma : TM} {n : Str} {C : Addr} {pos p p2 : Pos} {others : List Str}
theorem de_isiC (hC : PySem.W.nsIn X.K mainGlobals n = some (some (.ref C))) (gC : X.mg n = some (.ref C)) (hcn : Gl X n) (hdb : (n == ("__debug__" : Str)) = false) (hk : kitAll X.K C = true) (ho : KitOwn X.K others) (hin : n ∈ others) (hg : Gl X "isinstance") (hm : X.mg "isinstance" = none) (ha : DE X W a ba ma)
    (hs : starEach [a, .Name n p2] X.env = (false, eval a X.env) :: starEach [.Name n p2] X.env := by rfl) (hs2 : starEach [.Name n p2] X.env = (false, eval (.Name n p2) X.env) :: starEach [] X.env := by rfl) (hpl : (backTo pos (starEach [.Name n p2] X.env)).any (·.1) = false := by rfl) :
    DE X W (.Call (.Name "isinstance" p) [a, .Name n p2] [] pos) false (mIsiC others n ma) :=
  PE.imp (pe_callB call_isi hg hm (by decide +kernel) (pa_cons ha (pa_cons (pe_glob (v := .ref C) hcn gC rfl (hd := hdb)) pa_nil hs2) hs) (by decide) (by decide) hs hpl) fun σ H Q ⟨F, own, δ, P, EK, A, m, q⟩ => ⟨F, own, δ, _, EK, A, m, fun d v H1 ⟨hd, m1⟩ s1 r1 => by
    have fin : ∀ t, TyX X.K H1 v t → PySem.W.kitOne X.K t (.ref C) = some (isClsD n d) → ∃ (x c : V) (t u : Value) (b : Bool), [v, V.ref C] = [x, c] ∧ ClsV c u ∧ TyX X.K H1 x t ∧ PySem.W.kitOne X.K t u = some b ∧ Q (.bl b) H1 := fun t ty hk => ⟨v, .ref C, t, .ref C, _, rfl, .own C, ty, hk, q _ _ H1 m1 s1 (.cl (.bool _))⟩
    rcases hd with hd | ⟨m', fs, rfl, hm'⟩
    · obtain ⟨t, ht⟩ := Option.isSome_iff_exists.mp hd
      refine fin (.type t) (tyx_rv r1 ht) ?_
      have z := of_decide_eq_true (List.all_eq_true.mp hk t (tyn_mem ht))
      rw [z]
      cases d <;> cases ht <;> rfl
    · obtain ⟨C', a, dx, vs, hC', rfl, h1, h2⟩ := r1.obj
      have T := ho.ins m' C' hm' hC'
      refine fin (.ref C') (.base (.ins h1 T.cl T.fc T.sg T.tk T.mo)) ?_
      rw [ho.two m' n C' C hm' hin hC' hC]
      rfl⟩
end
end DL
set_option Elab.async false
set_option linter.all false
set_option maxRecDepth 100000
set_option maxHeartbeats 4000000
/-! DL22: list(d.values()). -/
namespace DL
open PySem PySem.Spec PyProof.Rows L2
variable [TabsC]
section
variable {X : Cx} {W : WX} {e : Expr} {te : TE} {ba : Bool} {ma : TM} {p apos cpos pos : Pos}
def mListVals (ma : TM) : TM := fun δ Q E => ma δ (fun d => ∃ ds : List (Key × D), d = .dict ds ∧ Q (.list (ds.map (·.2)))) E
end
end DL
set_option Elab.async false
set_option linter.all false
set_option maxRecDepth 100000
set_option maxHeartbeats 4000000
/-! DL23: chains within a list of sizes, counted and the longest (plain). -/
namespace DL
variable [TabsC]
def chainB (s : List Int) : Bool := decide (s ≠ []) && (gapL s).isNone
/-! ### the table -/
/-! ### the longest -/
structure LongOk (p : List Int) (L : List (List Int)) : Prop where
  mem : ∀ t, t ∈ L → chainB t = true ∧ t.Sublist p
  top : ∀ s, s.Sublist p → chainB s = true → ∃ t, t ∈ L ∧ t.getLastD 0 = s.getLastD 0 ∧ s.length ≤ t.length
theorem LongOk.nil : LongOk [] [] := ⟨(fun t h => by cases h), fun s h hc => absurd (show chainB [] = true from List.sublist_nil.mp h ▸ hc) (by decide)⟩
end DL
set_option Elab.async false
set_option linter.all false
set_option maxRecDepth 100000
set_option maxHeartbeats 4000000
/-! DL24: errors of one's own: made, raised, caught by several clauses, their field read. -/
namespace DL
open PySem PySem.Spec PyProof.Rows L2
/-! ### an own class over a built-in one -/
end DL
namespace PySem
end PySem
namespace DL
open PySem PySem.Spec PyProof.Rows L2
/-! ### def __init__(self, f): self.f = f -/
/-! ### X(e), raised -/
variable [TabsC]
section
variable {X : Cx} {C fI : Addr} {nm qn f : Str} {tl : List Value} {B newId initId : String} {W : WX} {a e : Expr} {ba : Bool} {ma : TM} {x : Str} {p p2 pos pos2 : Pos} {k : Nat}
/-- raise X(e) -/
def sRaise (nm f : Str) (ma : TM) : SM := fun δ k => ma δ (fun d => k.er δ ⟨nm, some (f, d)⟩) (k.er δ)
/-- raise X('m') -/
def sRaise0 (nm : Str) : SM := fun δ k => k.er δ ⟨nm, none⟩
theorem ds_raise0 {m : Str} {j : Nat} {bmB : List Value} (F : ExcBaseFacts B newId initId bmB) (q : PySem.W.excIn X.K C bmB newId = true) (hn : PySem.W.nsIn X.K mainGlobals nm = some (some (.ref C))) (gC : X.mg nm = some (.ref C)) (kC : PySem.W.keepIn X.K (.ref C) = true) (h1 : PySem.W.subIn X.K (.ref C) (.type "BaseException") = some true) (h2 : PySem.W.typeIn X.K (.ref C) = some (.type "type")) (hc : X.calm = true) (tk : Takes X W) (hg : Gl X nm) (hdb : (nm == ("__debug__" : Str)) = false := by decide) :
    DS X W (.Raise (some (.Call (.Name nm p) [.Constant (.str m) j p2] [] pos)) none pos2) (sRaise0 nm) :=
  PS.imp (ps_raise hc tk (pmk_own F q gC kC (raises_own h1 h2) hg hdb)) fun D σ H ⟨Fm, own, δ, κ, E, h, L⟩ => L.er _ _ _ σ H own δ E h ⟨⟨C, hn, rfl⟩, fun f d q => by cases q⟩
end
end DL
set_option Elab.async false
set_option linter.all false
set_option maxRecDepth 100000
set_option maxHeartbeats 4000000
/-! DL25: try with several clauses; what a caught error keeps. -/
namespace DL
open PySem PySem.Spec PyProof.Rows L2
/-- an exception lies at a, caught; the clauses are asked -/
structure Cat (X : Cx) (Wout : WX) (pins : List (Addr × Obj)) (σ : L2.St) (H : Hp) (cls : Value) (d : Option Addr) (a : Addr) (B : Heap) (s : Shared) (h : Heap) : Prop where
  fl : PySem.HandSPX.FlyingZ B (X.env :: X.outer) a (Zc cls d) h
  land : ∀ h', PySem.HandSPX.FlyingZ B (X.env :: X.outer) a (Zc cls d) h' → h.UpToSlots h' → Inv X pins σ H { s with heap := h' }
  na : H a = none
  nL : a ≠ X.env.locals
  nF : a ∉ X.fs
  out : ∀ h', PySem.HandSPX.HeldZ B (X.env :: X.outer) a (Zc cls d) X.env.locals h' → h.UpToSlots h' → Wout cls d σ H → X.xe (.ref a) { s with heap := h' }
def PH (X : Cx) (hds : List ExceptHandler) (w : WX → Ends → WX) : Prop := ∀ (Wout : WX) (D : Ends) (pins : List (Addr × Obj)) (σ : L2.St) (H : Hp) (cls : Value) (d : Option Addr) (a : Addr) (B : Heap) (s : Shared) (h : Heap),
  Cat X Wout pins σ H cls d a B s h → w Wout D cls d σ H → wpAny (model X.prog X.w) X.A (handleBy (.ref a) X.env hds) (SP X pins D) X.xe { s with heap := h }
section
variable {X : Cx} {hds : List ExceptHandler} {w : WX → Ends → WX} {x n : Str} {c : Value} {C : Addr} {b0 : Stmt} {suite : List Stmt} {np pos' : Pos} {i : Nat}
theorem ph_nil (hf : X.env.frame = some X.env.locals) : PH X [] fun Wout _ => Wout := by
  intro Wout D pins σ H cls d a B s h q wish
  refine wpAny_handleBy_nil ?_
  obtain ⟨k1, k2, k3, oe, vs, T, oT, ts, he, hz, hd, h1, hr⟩ := id q.fl
  unfold PySem.passOn
  refine wpAny_bind (wpAny_field he hd h1 ?_)
  rw [if_neg (show ¬ ((Value.ref T == Value.none) = true) from by simp)]
  have last : wpAny (model X.prog X.w) X.A (setFlight (.ref a) X.env.frame) (fun _ s4 => wpAny (model X.prog X.w) X.A (throw (.ref a) : Sem Flow) (SP X pins D) X.xe s4) X.xe { s with heap := h } := by
    rw [hf]
    exact PySem.HandSPX.setFlight_upZ q.fl fun h4 hh4 up4 => wpAny_throw (q.out h4 hh4 up4 wish)
  first
    | exact wpAny_bind (wpAny_pure (wpAny_bind last))
    | exact wpAny_bind last
/-- does the clause's class take it -/
theorem ph_test {Q : Value → Shared → Prop} {Wout : WX} {pins : List (Addr × Obj)} {σ : L2.St} {H : Hp} {cls : Value} {d : Option Addr} {a : Addr} {B : Heap} {s : Shared} {h : Heap} {E : Value → Shared → Prop} (q : Cat X Wout pins σ H cls d a B s h) (hc : Names X x c) (hq : Q c { s with heap := h }) :
    wpAny (model X.prog X.w) (X.A.mark (some (.ref a))) (eval (.Name x np) X.env) Q E { s with heap := h } := by
  obtain ⟨oe, vs, he, hz, hd⟩ := q.fl.there
  have S := (q.land h q.fl (fun b o e _ => ⟨o.slots, e⟩)).suite he hd q.na q.nL q.nF
  obtain ⟨hg, hdbg, hm | ⟨hm, hv, hnn⟩⟩ := hc
  · exact ld_glob (X := X.suite a ((a, oe) :: (X.pn ++ pins))) S hg hm hq hdbg
  · exact ld_blt (X := X.suite a ((a, oe) :: (X.pn ++ pins))) S hg hm hv hq hnn hdbg
theorem ph_is {Wout : WX} {pins : List (Addr × Obj)} {σ : L2.St} {H : Hp} {cls : Value} {d : Option Addr} {a : Addr} {B : Heap} {s : Shared} {h : Heap} (q : Cat X Wout pins σ H cls d a B s h) : X.K.In h ∧ PySem.W.Looks (model X.prog X.w) h (typeOf (.ref a)) cls := by
  obtain ⟨oe, vs, he, hz, hd⟩ := q.fl.there
  exact ⟨(q.land h q.fl (fun b o e _ => ⟨o.slots, e⟩)).kIn, fun A Q E s k q => wpAny_typeOf_ref (k _ _ he) (by rw [hz.1]; exact q)⟩
/-- except x: suite -/
theorem ph_cons {ts : TS} (hc : Names X x c) (hsu : ∀ (a : Addr) (oe : Obj) (cls : Value) (d : Option Addr) (pn : List (Addr × Obj)), Zc cls d oe → PSs (X.suite a ((a, oe) :: pn)) (b0 :: suite) ts) (r : PH X hds w) :
    PH X (.ExceptHandler (some (.Name x np)) none (b0 :: suite) pos' :: hds) fun Wout D cls d σ H => ∃ b, PySem.W.exmOne X.K cls c = some b ∧ (b = true → ts D σ H) ∧ (b = false → w Wout D cls d σ H) := by
  intro Wout D pins σ H cls d a B s h q ⟨b, hb, hyes, hno⟩
  refine wpAny_handleBy_cons (codeAny_handlers_test ?_) (by intro z; cases z)
  obtain ⟨kin, lt⟩ := ph_is q
  refine ph_test q hc ((PySem.W.exm_one (M := model X.prog X.w) kin lt hb).here ?_)
  cases b with
  | false => exact r Wout D pins σ H cls d a B s h q (hno rfl)
  | true =>
    refine codeAny_handlers_suite ?_
    refine PySem.HandSPX.lands_againZ q.fl fun h4 fl4 up4 => ?_
    have J4 := q.land h4 fl4 up4
    obtain ⟨oe, vs, he, hz, hd⟩ := fl4.there
    refine wpAny_mono ((hsu a oe cls d (X.pn ++ pins) hz).run [] _ _ H _ (J4.suite he hd q.na q.nL q.nF) (hyes rfl)) (fun f s6 hsp => ?_) (fun _ _ z => False.elim z)
    cases f with
    | next => exact let ⟨σ6, H6, S6, q6⟩ := hsp; ⟨_, _, S6.unsuite J4.ok, q6⟩
    | brk => exact let ⟨σ6, H6, S6, q6⟩ := hsp; ⟨_, _, S6.unsuite J4.ok, q6⟩
    | cont => exact let ⟨σ6, H6, S6, q6⟩ := hsp; ⟨_, _, S6.unsuite J4.ok, q6⟩
    | ret u => exact let ⟨v6, σ6, H6, S6, r6, q6⟩ := hsp; ⟨_, _, _, S6.unsuite J4.ok, r6, q6⟩
theorem ps_try {body : List Stmt} {pos : Pos} {tb : WX → TS} {Wout : WX} (hs : X.stack = X.env :: X.outer) (hf : X.env.frame = some X.env.locals) (tk : Takes X Wout)
    (hb : ∀ (W : WX) (pn : List (Addr × Obj)) (xe : Value → Shared → Prop), Takes (X.tr pn xe) W → PassesOwn (model X.prog X.w) X.A X.env xe → PSs (X.tr pn xe) body (tb W)) (hh : PH X hds w) (h0 : hds ≠ []) :
    PS X (.Try body hds [] [] pos) (fun D σ H => tb (w Wout D) D σ H) := by
  refine ⟨fun pins s σ H D I h => ?_⟩
  have ok := I.ok
  have hfr : X.A.frames = some (X.env :: X.outer) := by rw [ok.frames, hs]
  obtain ⟨hd0, hds', rfl⟩ := List.exists_cons_of_ne_nil h0
  refine wpAny_Try_except ?_
  refine wpAny_mono ((hb (w Wout D) (X.pn ++ pins) (fun e s1 => wpAny (model X.prog X.w) X.A (noteFrame e X.env) (fun _ s2 => wpAny (model X.prog X.w) X.A (setFlight e none) (fun _ s3 =>
    wpAny (model X.prog X.w) X.A (handleBy e X.env (hd0 :: hds')) (SP X pins D) X.xe s3) X.xe s2) X.xe s1) (fun u s' xx => ?_) PassesOwn.looking).run [] s σ H D (I.toTry _) h) (fun f s1 hsp => ?_) (fun e s1 he => he)
  · obtain ⟨a, B, sI, pins', σ', H', cls, d, rfl, J0, nb, up, sky, na, os, ag, wish⟩ := xx
    have J : Inv X pins σ' H' sI := J0.ofTry ok
    have sky' : Sky B (X.env :: X.outer) a (Zc cls d) X.env.locals s'.heap := by rw [← hs]; exact sky
    show wpAny (model X.prog X.w) X.A (noteFrame (.ref a) X.env) _ _ _
    refine Sky.land Zc.steady hfr hf sky' fun h3 fl3 up3 => ?_
    obtain ⟨oe, vs, he, hz, hd⟩ := fl3.there
    have nfr : a ∉ frs (X.env :: X.outer) := fun hm => by
      obtain ⟨_, o, e, hnf⟩ := fl3.2.2.1.mem hm
      rw [he] at e; cases e
      exact hnf _ hd
    refine hh Wout D pins σ' H' cls d a B s' h3 ⟨fl3, fun h4 fl4 up4 => J.landed nb fl4.1 ((up.trans up3).trans up4) os ag, na, fun z => nfr (List.mem_filterMap.mpr ⟨X.env, List.mem_cons_self, by rw [hf, z]⟩), fun hm => ?_, fun h4 hh4 up4 ww => tk _ _ ?_⟩ wish
    · obtain ⟨e, he, q⟩ := List.mem_filterMap.mp hm
      exact nfr (List.mem_filterMap.mpr ⟨e, List.mem_cons_of_mem _ he, q⟩)
    · exact ⟨a, B, sI, pins, σ', H', cls, d, rfl, J, nb, (up.trans up3).trans up4, .inr (.inr (by rw [hs]; exact hh4)), na, os, ag, ww⟩
  · cases f with
    | next => exact let ⟨σ', H', J, q⟩ := hsp; wpAny_execs_nil ⟨σ', H', J.ofTry ok, q⟩
    | brk => exact let ⟨σ', H', J, q⟩ := hsp; ⟨σ', H', J.ofTry ok, q⟩
    | cont => exact let ⟨σ', H', J, q⟩ := hsp; ⟨σ', H', J.ofTry ok, q⟩
    | ret u => exact let ⟨v, σ', H', J, r, q⟩ := hsp; ⟨v, σ', H', J.ofTry ok, r, q⟩
end
/-! ### over data -/
variable [TabsC]
/-- which class takes which error -/
structure HIsa (K : PySem.W.Frag) (names : List Str) (isa : Str → Str → Bool) : Prop where
  one : ∀ (n c : Str) (Cn Cc : Addr), n ∈ names → c ∈ names → PySem.W.nsIn K mainGlobals n = some (some (.ref Cn)) → PySem.W.nsIn K mainGlobals c = some (some (.ref Cc)) → PySem.W.exmOne K (.ref Cn) (.ref Cc) = some (isa n c)
def HM := Er → SM
def hPlain (m : SM) : HM := fun _ δ k => m δ { k with er := fun _ _ => False }
def hAs (i : Nat) (m : Addr → Addr → SM) : HM := fun er δ k => ∃ f d, er.arg = some (f, d) ∧ ∀ a dd, m a dd (δ.set i (.v (.exc a dd er.cls f d))) ⟨fun δ' => k.nx (δ'.set i .u), k.rt, fun δ' => k.bk (δ'.set i .u), fun δ' => k.ct (δ'.set i .u), fun _ _ => False⟩
def hsM (isa : Str → Str → Bool) : List (Str × HM) → Er → SM
  | [], er => fun δ k => k.er δ er
  | (c, h) :: r, er => fun δ k => if isa er.cls c = true then h er δ k else hsM isa r er δ k
def sTry (names : List Str) (isa : Str → Str → Bool) (mb : SM) (hs : List (Str × HM)) : SM := fun δ k => mb δ { k with er := fun δ' er => er.cls ∈ names ∧ hsM isa hs er δ' k }
def DHs (X : Cx) (names : List Str) (isa : Str → Str → Bool) (hds : List ExceptHandler) (hs : List (Str × HM)) : Prop := ∃ w : WX → Ends → WX, PH X hds w ∧ ∀ (Wout : WX) (D : Ends) (F : Fm) (k : KD), LinkS X.K Wout F k D → ∀ er cls dd σ H own δ, EnvD X.K F own σ δ H → er.cls ∈ names → RepEr X.K (F.ls0 ++ own) H cls dd er → hsM isa hs er δ k → w Wout D cls dd σ H
section
variable {X : Cx} {W : WX} {names : List Str} {isa : Str → Str → Bool} {hds : List ExceptHandler} {hs : List (Str × HM)} {x n : Str} {C : Addr} {b0 : Stmt} {suite sts : List Stmt} {np pos' pos : Pos} {i : Nat} {mb m : SM}
theorem dhs_nil (hf : X.env.frame = some X.env.locals) : DHs X names isa [] [] := ⟨_, ph_nil hf, fun Wout D F k L er cls dd σ H own δ E hn r h => L.er er cls dd σ H own δ E h r⟩
theorem link_in {K : PySem.W.Frag} {Wout : WX} {F : Fm} {k : KD} {D : Ends} (L : LinkS K Wout F k D) : LinkS K NoW F { k with er := fun _ _ => False } D := ⟨L.nx, L.rt, L.bk, L.ct, fun _ _ _ _ _ _ _ _ z => z.elim⟩
theorem dhs_cons (HI : HIsa X.K names isa) (hn : PySem.W.nsIn X.K mainGlobals x = some (some (.ref C))) (gC : X.mg x = some (.ref C)) (hx : x ∈ names) (hg : Gl X x) (hsu : ∀ (a : Addr) (oe : Obj) (pn : List (Addr × Obj)), DSs (X.suite a ((a, oe) :: pn)) NoW (b0 :: suite) m) (r : DHs X names isa hds hs) (hdb : (x == ("__debug__" : Str)) = false := by decide) :
    DHs X names isa (.ExceptHandler (some (.Name x np)) none (b0 :: suite) pos' :: hds) ((x, hPlain m) :: hs) := by
  obtain ⟨w, hw, hr⟩ := r
  refine ⟨_, ph_cons (c := .ref C) (ts := ts X.K NoW m) ⟨hg, hdb, .inl gC⟩ (fun a oe cls d pn _ => hsu a oe pn) hw, fun Wout D F k L er cls dd σ H own δ E hin rep h => ?_⟩
  obtain ⟨⟨Ce, hCe, rfl⟩, _⟩ := id rep
  refine ⟨isa er.cls x, HI.one _ _ _ _ hin hx hCe hn, fun e => ?_, fun e => ?_⟩
  · unfold hsM at h
    rw [if_pos e] at h
    exact ⟨F, own, δ, _, E, h, link_in L⟩
  · unfold hsM at h
    rw [if_neg (by rw [e]; decide)] at h
    exact hr Wout D F k L er _ dd σ H own δ E hin rep h
theorem ds_try (hs0 : X.stack = X.env :: X.outer) (hf : X.env.frame = some X.env.locals) (tk : Takes X W)
    (hb : ∀ (W' : WX) (pn : List (Addr × Obj)) (xe : Value → Shared → Prop), Takes (X.tr pn xe) W' → PassesOwn (model X.prog X.w) X.A X.env xe → DSs (X.tr pn xe) W' sts mb) (hh : DHs X names isa hds hs) (h0 : hds ≠ []) : DS X W (.Try sts hds [] [] pos) (sTry names isa mb hs) := by
  obtain ⟨w, hw, hr⟩ := hh
  refine PS.imp (ps_try (tb := fun W' => ts X.K W' mb) hs0 hf tk hb hw h0) fun D σ H ⟨F, own, δ, k, E, h, L⟩ => ?_
  exact ⟨F, own, δ, _, E, h, ⟨L.nx, L.rt, L.bk, L.ct, fun er cls dd σ' H' own' δ' E' ⟨hin, q⟩ r => hr W D F k L er cls dd σ' H' own' δ' E' hin r q⟩⟩
/-- e.f, e the error that the clause has caught -/
def mEF (i : Nat) (a dd : Addr) (f : Str) : TM := fun δ Q _ => ∃ nm d, δ[i]? = some (.v (.exc a dd nm f d)) ∧ Q d
end
end DL
set_option Elab.async false
set_option linter.all false
set_option maxRecDepth 100000
set_option maxHeartbeats 4000000
/-! DL26: x += e; tables of classes; fields' names. -/
namespace DL
open PySem PySem.Spec PyProof.Rows L2
variable [TabsC]
section
variable {X : Cx} {W : WX} {e : Expr} {ba : Bool} {ma : TM} {pos pos' : Pos} {x : Str} {op : Operator}
/-! ### x += e, of ints -/
def fI2 (g : Int → Int → Int) (x y : D) (Q : D → Prop) : Prop := match x, y with
  | .int i, .int j => Q (.int (g i j))
  | _, _ => False
theorem e_fI2 {g : Int → Int → Int} {i j : Int} {Q : D → Prop} : fI2 g (.int i) (.int j) Q = Q (.int (g i j)) := rfl
abbrev fAugAdd := fI2 fun i j => i + j
abbrev fAugSub := fI2 fun i j => i - j
def sAug (i : Nat) (f : D → D → (D → Prop) → Prop) (ma : TM) : SM := fun δ k => ∃ x, δ[i]? = some (.v x) ∧ ma δ (fun y => f x y fun d => k.nx (δ.set i (.v d))) (k.er δ)
theorem ds_aug (i : Nat) {g : Int → Int → Int} (hN : X.N.Nodup) (ho : PIp X op (ipI g)) (he : DE X W e ba ma) (hi : X.N[i]? = some x := by rfl) (hx : Loc X.env.scope x := by first | exact .inl rfl | exact .inr rfl) (hf : X.fn x = true ∨ X.env.scope.names.lookup x = some .local := by first | exact .inl rfl | exact .inr rfl) :
    DS X W (.AugAssign (.Name x pos') op e pos) (sAug i (fI2 g) ma) :=
  PS.imp (ps_aug hN hi hx he ho hf) fun D σ H ⟨F, own, δ, κ, E, ⟨dx, hd, h⟩, L⟩ => by
    obtain ⟨s, hs, v, rfl, rv⟩ := E.slot i _ hd
    refine ⟨v, hs, F, own, δ, _, _, L.at E, h, fun dy w H1 m1 s1 r1 => ?_⟩
    unfold fI2 at m1
    split at m1
    · rename_i a b
      have e1 : v = .int a := by cases rv; rfl
      subst e1
      rw [r1.isInt]
      exact ⟨a, b, rfl, rfl, L.nx _ H1 own _ ((E.grow s1).set i (.int _)) m1⟩
    · exact m1.elim
end
/-! ### tables of classes -/
theorem HIsa.of {K : PySem.W.Frag} {names : List Str} {isa : Str → Str → Bool} (tbl : List (Str × Addr)) (h1 : names = tbl.map (·.1)) (hns : ∀ p ∈ tbl, PySem.W.nsIn K mainGlobals p.1 = some (some (.ref p.2)))
    (h2 : (tbl.all fun p => tbl.all fun q => decide (PySem.W.exmOne K (.ref p.2) (.ref q.2) = some (isa p.1 q.1))) = true) : HIsa K names isa := by
  refine ⟨fun n c Cn Cc hn hc en ec => ?_⟩
  rw [h1] at hn hc
  obtain ⟨p, hp, rfl⟩ := List.mem_map.mp hn
  obtain ⟨q, hq, rfl⟩ := List.mem_map.mp hc
  have ep := hns p hp
  have eq := hns q hq
  rw [ep] at en
  rw [eq] at ec
  cases en
  cases ec
  exact of_decide_eq_true (List.all_eq_true.mp (List.all_eq_true.mp h2 p hp) q hq)
theorem insTy_of {K : PySem.W.Frag} {C : Addr} (h : insTyB K C = true) : InsTy K C := by
  unfold insTyB at h
  simp only [Bool.and_eq_true, decide_eq_true_eq] at h
  obtain ⟨a, b, c, d, e, f, g, i⟩ := h
  exact ⟨⟨a, b, c, d⟩, e, f, g, i⟩
theorem KitOwn.of {K : PySem.W.Frag} {others : List Str} (tbl : List (Str × Addr)) (h1 : others = tbl.map (·.1)) (nd : others.Nodup) (hns : ∀ p ∈ tbl, PySem.W.nsIn K mainGlobals p.1 = some (some (.ref p.2)))
    (h2 : (tbl.all fun p => tbl.all fun q => decide (PySem.W.kitOne K (.ref p.2) (.ref q.2) = some (decide (p.1 = q.1)))) = true) (h3 : (tbl.all fun p => insTyB K p.2) = true) : KitOwn K others := by
  refine ⟨fun m n Cm Cn hm hn em en => ?_, fun m Cm hm em => ?_⟩
  · rw [h1] at hm hn
    obtain ⟨p, hp, rfl⟩ := List.mem_map.mp hm
    obtain ⟨q, hq, rfl⟩ := List.mem_map.mp hn
    have ep := hns p hp
    have eq := hns q hq
    rw [ep] at em
    rw [eq] at en
    cases em
    cases en
    exact of_decide_eq_true (List.all_eq_true.mp (List.all_eq_true.mp h2 p hp) q hq)
  · rw [h1] at hm
    obtain ⟨p, hp, rfl⟩ := List.mem_map.mp hm
    have ep := hns p hp
    rw [ep] at em
    cases em
    exact insTy_of (List.all_eq_true.mp h3 p hp)
end DL
set_option Elab.async false
set_option linter.all false
set_option maxRecDepth 100000
set_option maxHeartbeats 4000000
/-! DL27: the sorted set of ints as a plain list; chains as pairwise divisions. -/
namespace DL
open PySem PySem.Spec PyProof.Rows L2
variable [TabsC]
def insL (x : Int) : List Int → List Int
  | [] => [x]
  | y :: r => if x < y then x :: y :: r else if x = y then y :: r else y :: insL x r
def setL (xs : List Int) : List Int := xs.foldr insL []
theorem insL_mem {x k : Int} : ∀ {r : List Int}, k ∈ insL x r ↔ k = x ∨ k ∈ r
  | [] => by simp [insL]
  | y :: r => by
    have ih := @insL_mem x k r
    unfold insL
    split
    · simp
    · split
      · rename_i h; subst h; simp
      · simp only [List.mem_cons, ih]
        constructor
        · rintro (h | h | h)
          · exact .inr (.inl h)
          · exact .inl h
          · exact .inr (.inr h)
        · rintro (h | h | h)
          · exact .inr (.inl h)
          · exact .inl h
          · exact .inr (.inr h)
theorem insL_pair {x : Int} : ∀ {r : List Int}, r.Pairwise (· < ·) → (insL x r).Pairwise (· < ·)
  | [], _ => by simp [insL]
  | y :: r, h => by
    have h' := List.pairwise_cons.mp h
    unfold insL
    split
    · rename_i hx
      refine List.pairwise_cons.mpr ⟨fun k hk => ?_, h⟩
      rcases List.mem_cons.mp hk with rfl | hk
      · exact hx
      · exact Int.lt_trans hx (h'.1 k hk)
    · split
      · exact h
      · refine List.pairwise_cons.mpr ⟨fun k hk => ?_, insL_pair h'.2⟩
        rcases insL_mem.mp hk with rfl | hk
        · omega
        · exact h'.1 k hk
theorem setL_pair : ∀ {xs : List Int}, (setL xs).Pairwise (· < ·)
  | [] => List.Pairwise.nil
  | x :: r => insL_pair (setL_pair (xs := r))
theorem setL_mem {k : Int} : ∀ {xs : List Int}, k ∈ setL xs ↔ k ∈ xs
  | [] => Iff.rfl
  | x :: r => by
    show k ∈ insL x (setL r) ↔ _
    rw [insL_mem, setL_mem (xs := r), List.mem_cons]
theorem asc_ext : ∀ {xs ys : List Int}, xs.Pairwise (· < ·) → ys.Pairwise (· < ·) → (∀ k, k ∈ xs ↔ k ∈ ys) → xs = ys
  | [], [], _, _, _ => rfl
  | [], y :: r, _, _, h => by have := (h y).mpr List.mem_cons_self; cases this
  | x :: r, [], _, _, h => by have := (h x).mp List.mem_cons_self; cases this
  | x :: r, y :: t, hx, hy, h => by
    have hx' := List.pairwise_cons.mp hx
    have hy' := List.pairwise_cons.mp hy
    have e : x = y := by
      rcases List.mem_cons.mp ((h x).mp List.mem_cons_self) with e | m
      · exact e
      · rcases List.mem_cons.mp ((h y).mpr List.mem_cons_self) with e | m'
        · exact e.symm
        · have := hy'.1 x m; have := hx'.1 y m'; omega
    subst e
    refine congrArg (x :: ·) (asc_ext hx'.2 hy'.2 fun k => ⟨fun m => ?_, fun m => ?_⟩)
    · rcases List.mem_cons.mp ((h k).mp (List.mem_cons_of_mem _ m)) with e | m'
      · have := hx'.1 k m; omega
      · exact m'
    · rcases List.mem_cons.mp ((h k).mpr (List.mem_cons_of_mem _ m)) with e | m'
      · have := hy'.1 k m; omega
      · exact m'
theorem setL_of {ms xs : List Int} (h : ms.Pairwise (· < ·)) (hm : ∀ k, k ∈ ms ↔ k ∈ xs) : ms = setL xs := asc_ext h setL_pair fun k => (hm k).trans setL_mem.symm
theorem setL_perm {ms xs : List Int} (hp : ms.Perm xs) (hn : xs.Nodup) (hs : ms.Pairwise (· ≤ ·)) : ms = setL xs := by
  refine setL_of ?_ fun k => hp.mem_iff
  have hn' : ms.Pairwise (· ≠ ·) := (hp.nodup_iff).mpr hn
  refine (hs.and hn').imp fun h => ?_
  obtain ⟨a, b⟩ := h
  omega
theorem pair_asc : ∀ {ns : List Int}, ascL ns = true → ns.Pairwise (· < ·)
  | [], _ => List.Pairwise.nil
  | [x], _ => by simp
  | x :: y :: r, h => by
    have h1 : (decide (x < y) && ascL (y :: r)) = true := h
    rw [Bool.and_eq_true, decide_eq_true_eq] at h1
    have ih := pair_asc h1.2
    refine List.pairwise_cons.mpr ⟨fun k hk => ?_, ih⟩
    rcases List.mem_cons.mp hk with rfl | hk
    · exact h1.1
    · exact Int.lt_trans h1.1 ((List.pairwise_cons.mp ih).1 k hk)
theorem gapL_cons {x y : Int} {r : List Int} : gapL (x :: y :: r) = if y % x = 0 then gapL (y :: r) else some (x, y) := by
  show (((x, y) :: nb (y :: r)).find? fun p => decide (p.2 % p.1 ≠ 0)) = _
  rw [List.find?_cons]
  by_cases h : y % x = 0
  · rw [if_pos h, show decide ((x, y).2 % (x, y).1 ≠ 0) = false from decide_eq_false (fun z => z h)]
    rfl
  · rw [if_neg h, show decide ((x, y).2 % (x, y).1 ≠ 0) = true from decide_eq_true h]
theorem pair_gap : ∀ {ns : List Int}, gapL ns = none → ns.Pairwise (· ∣ ·)
  | [], _ => List.Pairwise.nil
  | [x], _ => by simp
  | x :: y :: r, h => by
    rw [gapL_cons] at h
    split at h
    · rename_i hd
      have ih := pair_gap h
      have hd := Int.dvd_of_emod_eq_zero hd
      refine List.pairwise_cons.mpr ⟨fun k hk => ?_, ih⟩
      rcases List.mem_cons.mp hk with rfl | hk
      · exact hd
      · exact Int.dvd_trans hd ((List.pairwise_cons.mp ih).1 k hk)
    · cases h
theorem asc_sub : ∀ {xs ys : List Int}, xs.Pairwise (· < ·) → ys.Pairwise (· < ·) → (∀ k, k ∈ xs → k ∈ ys) → xs.Sublist ys
  | [], ys, _, _, _ => List.nil_sublist _
  | x :: r, [], _, _, h => by have := h x List.mem_cons_self; cases this
  | x :: r, y :: t, hx, hy, h => by
    have hx' := List.pairwise_cons.mp hx
    have hy' := List.pairwise_cons.mp hy
    by_cases e : x = y
    · subst e
      refine (asc_sub hx'.2 hy'.2 fun k m => ?_).cons₂ x
      rcases List.mem_cons.mp (h k (List.mem_cons_of_mem _ m)) with e | m'
      · have := hx'.1 k m; omega
      · exact m'
    · have hxt : x ∈ t := by
        rcases List.mem_cons.mp (h x List.mem_cons_self) with e' | m
        · exact absurd e' e
        · exact m
      refine (asc_sub hx hy'.2 fun k m => ?_).cons y
      rcases List.mem_cons.mp (h k m) with e' | m'
      · rcases List.mem_cons.mp m with e2 | m2
        · exact absurd (e2.symm.trans e') e
        · have := hx'.1 k m2; have := hy'.1 x hxt; omega
      · exact m'
theorem fineP (p : Int × Int) : fineN 1 (pairD p) := fineN_tup fun d hd => by
  simp only [List.mem_cons, List.not_mem_nil, or_false] at hd
  rcases hd with rfl | rfl <;> exact fineN_int
end DL
set_option Elab.async false
set_option linter.all false
set_option maxRecDepth 100000
set_option maxHeartbeats 4000000
/-! DL28: three names set side by side. -/
namespace DL
open PySem PySem.Spec PyProof.Rows L2
variable [TabsC]
section
variable {X : Cx} {W : WX} {a b c e : Expr} {la : LM} {ba : Bool} {pos : Pos}
def sPar3 (i j l : Nat) (la : LM) : SM := fun δ k => la δ (fun ds => ∃ d e f, ds = [d, e, f] ∧ k.nx (((δ.set i (.v d)).set j (.v e)).set l (.v f))) (k.er δ)
end
theorem ex3 {α β γ : Type} {a : α} {b : β} {c : γ} {P : α → β → γ → Prop} : (∃ x y z, (a = x ∧ b = y ∧ c = z) ∧ P x y z) = P a b c := propext ⟨fun ⟨_, _, _, ⟨e, e', e''⟩, h⟩ => by subst e e' e''; exact h, fun h => ⟨a, b, c, ⟨rfl, rfl, rfl⟩, h⟩⟩
end DL
set_option Elab.async false
set_option linter.all false
set_option maxRecDepth 100000
set_option maxHeartbeats 4000000
/-! DL29: dicts: in, len, list(d), tuple(d), sorted(d), dict(d), dict(pairs), list(d.items()). -/
namespace DL
open PySem PySem.Spec PyProof.Rows L2
variable [TabsC]
/-! ### in, len -/
section
variable {X : Cx}
def fInY (neg : Bool) (x y : D) (Q : Bool → Prop) : Prop := match y with
  | .dict ds => ∃ key : Key, x = keyD key ∧ Q (neg ^^ (valD ds key).isSome)
  | y => fInX neg x y Q
def rLenY (K : PySem.W.Frag) : List V → Hp → VK → Prop := fun xs H Q => (∃ a kvs, xs = [V.ref a] ∧ Rd H a (.dK kvs) ∧ Q (.int kvs.length) H) ∨ ∃ x n, xs = [x] ∧ LenV K x H n ∧ Q (.int n) H
theorem call_lenY : CallR X (.builtin "len") (rLenY X.K) := by
  intro pins s σ H xs us Q I r h
  rcases h with ⟨a, kvs, rfl, e, q⟩ | h
  · obtain ⟨u, rfl, rx⟩ := vals1 r
    obtain rfl : u = Value.ref a := rx
    exact d_len I e fun t s' I' => ⟨.int kvs.length, H, I', ⟨t, rfl⟩, q⟩
  · exact call_len pins s σ H xs us Q I r h
def fLenY (ds : List D) (Q : D → Prop) : Prop := match ds with
  | [.dict kvs] => Q (.int kvs.length)
  | ds => fLen ds Q
theorem link_lenY : LinkB X.K (rLenY X.K) fLenY := by
  intro fo ls H vs ds P Q ht r h q
  unfold fLenY at h
  split at h
  · obtain ⟨v, rfl, rr⟩ := r.one
    obtain ⟨a, kvs, rfl, h1, h2, h3⟩ := rr.dict
    refine .inl ⟨a, kvs, rfl, h1, ?_⟩
    rw [h3.len]
    exact q _ _ H h (Same.refl H) (.int _)
  · exact .inr (link_len fo ls H vs _ P Q ht r h q)
/-! ### list(d) -/
end
section
variable {X : Cx}
def fListY (ds : List D) (Q : D → Prop) : Prop := match ds with
  | [.dict kvs] => Q (.list (kvs.map fun kv => keyD kv.1))
  | ds => fList ds Q
end
/-! ### tuple(d) -/
section
variable {X : Cx}
def fTupleY (ds : List D) (Q : D → Prop) : Prop := match ds with
  | [.dict kvs] => Q (.tup (kvs.map fun kv => keyD kv.1))
  | ds => fTuple ds Q
/-! ### sorted(d), dict(d), dict(pairs) -/
def fSortK (ds : List D) (Q : D → Prop) : Prop := ∃ (kvs : List (Key × D)) (ns : List Int), ds = [.dict kvs] ∧ kvs.map (·.1) = ns.map Sum.inl ∧ ns.length < 64 ∧ ∀ ms : List Int, ms.Perm ns → ms.Pairwise (· ≤ ·) → Q (.list (ms.map .int))
theorem link_sortK : LinkF X.K (fun xs H Q => ∃ (a : Addr) (kvs : List (Key × V)) (ks : List Int), xs = [V.ref a] ∧ Rd H a (.dK kvs) ∧ kvs.map (·.1) = ks.map Sum.inl ∧ ks.length < 64 ∧
    ∀ (ys : List Int) (p : Addr), ys.Perm ks → ys.Pairwise (· ≤ ·) → H p = none → Q (.ref p) (upd H p (.lst (ys.map V.int)))) fSortK := by
  intro fo ls H vs ds P Q ht r ⟨kvs, ns, e, hk, hl, h⟩ q
  subst e
  obtain ⟨v, rfl, rr⟩ := r.one
  obtain ⟨a, xs, rfl, h1, h2, h3⟩ := rr.dict
  refine ⟨a, xs, ns, rfl, h1, h3.keys0.trans hk, hl, fun ms p hp hs hn => q _ _ _ (h ms hp hs) hn (same_upd hn) (.l upd_same ?_ (Reps.ints ms))⟩
  rw [List.length_map, hp.length_eq, sizeLine_eq]
  omega
theorem call_copyY : CallR X (.type "dict") (fun xs H Q => ∃ a kvs, xs = [V.ref a] ∧ Rd H a (.dK kvs) ∧ ∀ p, H p = none → Q (.ref p) (upd H p (.dK kvs))) := by
  intro pins s σ H xs us Q I r ⟨a, kvs, e, h1, q⟩
  subst e
  obtain ⟨u, rfl, rx⟩ := vals1 r
  obtain rfl : u = Value.ref a := rx
  exact d_copyOf I h1 fun p s' hp I' => ⟨.ref p, _, I', rfl, q p hp⟩
def fDictC (ds : List D) (Q : D → Prop) : Prop := ∃ kvs, ds = [.dict kvs] ∧ Q (.dict kvs)
theorem link_dictC : LinkF X.K (fun xs H Q => ∃ a kvs, xs = [V.ref a] ∧ Rd H a (.dK kvs) ∧ ∀ p, H p = none → Q (.ref p) (upd H p (.dK kvs))) fDictC := by
  intro fo ls H vs ds P Q ht r ⟨kvs, e, h⟩ q
  subst e
  obtain ⟨v, rfl, rr⟩ := r.one
  obtain ⟨a, xs, rfl, h1, h2, h3⟩ := rr.dict
  exact ⟨a, xs, rfl, h1, fun p hp => q _ _ _ h hp (same_upd hp) (.d upd_same h2 (h3.mono (sub_fresh hp (same_upd hp))))⟩
def fDictP (ds : List D) (Q : D → Prop) : Prop := ∃ kvs : List (Key × D), ds = [.list (kvs.map pairKD)] ∧ Q (.dict (mergeD [] kvs))
theorem reps_pairs {K : PySem.W.Frag} {fo ls : List Addr} {H H' : Hp} (hs : ∀ {a : Addr} {ys : List V}, SqT K (sub H ls) a ys → SqT K H' a ys) : ∀ {xs : List V} {kvs : List (Key × D)}, Reps K (sub H ls) xs (kvs.map pairKD) →
    ∃ (ps : List Addr) (ws : List (Key × V)), xs = ps.map V.ref ∧ Paired (fun p kv => SqT K H' p [kV kv.1, kv.2]) ps ws ∧ RepKs K (sub H ls) ws kvs
  | _, [], r => by
    cases r
    exact ⟨[], [], rfl, .nil, .nil⟩
  | _, (k, d) :: t, r => by
    cases r with
    | cons h rt =>
      obtain ⟨ps, ws, rfl, h1, h2⟩ := reps_pairs (fo := fo) hs rt
      cases h with
      | tup g1 g2 g3 =>
        cases g3 with
        | cons ra rb =>
          cases rb with
          | cons rb rc =>
            cases rc
            have ek := kV_of (fo := fo) (ls := ls) (b := true) (RV.cl ra)
            subst ek
            exact ⟨_ :: ps, (k, _) :: ws, rfl, .cons (hs g1) h1, .cons rb h2⟩
theorem link_dictP : LinkF X.K (fun xs H Q => ∃ (a : Addr) (ps : List Addr) (kvs : List (Key × V)), xs = [V.ref a] ∧ SqL X.K H a (ps.map V.ref) ∧ Paired (fun p kv => SqT X.K H p [kV kv.1, kv.2]) ps kvs ∧
    ∀ p, H p = none → Q (.ref p) (upd H p (.dK (mergeK [] kvs)))) fDictP := by
  intro fo ls H vs ds P Q ht r ⟨kvs, e, h⟩ q
  subst e
  obtain ⟨v, rfl, rr⟩ := r.one
  obtain ⟨a, xs, rfl, h1, h2, h3⟩ := rr.list
  obtain ⟨ps, ws, rfl, g1, g2⟩ := reps_pairs (fo := fo) (H' := H) (fun z => sameT sub_le z) h3
  refine ⟨a, ps, ws, rfl, .of h1, g1, fun p hp => q _ _ _ h hp (same_upd hp) (.d upd_same ?_ ((RepKs.merge g2 .nil).mono (sub_fresh hp (same_upd hp))))⟩
  have := length_mergeK ws []
  have := g2.len
  have := h3.length
  rw [List.length_map] at *
  simp only [List.length_nil, List.length_map] at *
  omega
end
end DL
set_option Elab.async false
set_option linter.all false
set_option maxRecDepth 100000
set_option maxHeartbeats 4000000
/-! DL30: dict comprehensions, list(d.items()), sums, == of dicts. -/
namespace DL
open PySem PySem.Spec PyProof.Rows L2
variable [TabsC]
def compD (g : GM) (mt : BM) (mk mv : TM) (δ0 : List DV) : List D → List (Key × D) → (D → Prop) → Prop
  | [], acc, Q => Q (.dict acc)
  | d :: ds, acc, Q => g d δ0 fun δ' => mt δ' (fun b => if b = true then mk δ' (fun kd => mv δ' (fun v => ∃ key : Key, kd = keyD key ∧ compD g mt mk mv δ0 ds (putD acc key v) Q) NoE) NoE else compD g mt mk mv δ0 ds acc Q) NoE
def mCompD (vs : List Nat) (mi : LM) (g : GM) (mt : BM) (mk mv : TM) : TM := fun δ Q E => mi δ (fun ds => compD g mt mk mv (wipeD δ vs) ds [] Q) E
section
variable {X : Cx} {W : WX} {pos p apos cpos : Pos} {ba : Bool} {e : Expr} {ma : TM}
theorem df_compD {kx vx tg it : Expr} {ifs : List Expr} {scope : Scope} {own : List (Str × Nat)} {mi : LM} {g : GM} {mt : BM} {mk mv : TM} (hc : X.calm = true) (hN : X.N.Nodup) (hi : DI X W tg it ba mi) (ok : BlkOk X.N X.env.scope scope own)
    (hg : ∀ (s : Shared) (H : Hp) (C : Addr) (cl : List (Str × Addr)) (fp : List Addr), DGw (X.blk s H scope (compEnvC scope cl C X.env) fp) (own.map (·.2)) tg g) (ht : ∀ (s : Shared) (H : Hp) (C : Addr) (cl : List (Str × Addr)) (fp : List Addr), DTs (X.blk s H scope (compEnvC scope cl C X.env) fp) NoW ifs mt)
    (hk : ∀ (s : Shared) (H : Hp) (C : Addr) (cl : List (Str × Addr)) (fp : List Addr), DE (X.blk s H scope (compEnvC scope cl C X.env) fp) NoW kx false mk) (he : ∀ (s : Shared) (H : Hp) (C : Addr) (cl : List (Str × Addr)) (fp : List Addr), DE (X.blk s H scope (compEnvC scope cl C X.env) fp) NoW vx false mv)
    (hs : ∀ x, foldedSetIterable it X.env x = pure x := by intro _; rfl) : DF X W (.DictComp kx vx [⟨tg, it, ifs, 0⟩] scope pos) (mCompD (own.map (·.2)) mi g mt mk mv) :=
  PE.imp (pe_dc (g := tgw X.K (List.map (fun x : Str × Nat => x.2) own) g) (tt := tb X.K NoW mt) (tk := tm X.K NoW false mk) (tv := tm X.K NoW false mv) hc hN hi ok hg ht hk he hs) fun σ H Q ⟨F, ow, δ, P, EK, A, m, q⟩ => by
    refine ⟨F, ow, δ, _, EK, A, m, fun ds J H1 hds s1 ok => ?_⟩
    intro Dn hD
    have E1 := A.env.grow s1
    have nodn : ∀ (j : Nat) (dj : D), (wipeD δ (own.map (·.2)))[j]? = some (.m dj) → (L2.wipe σ (own.map (·.2)))[j]? ≠ some (some (.ref Dn)) := fun j dj h z => by
      obtain ⟨s, e1, a, e2, ha, _⟩ := (E1.wipe (own.map (·.2))).slot j _ h
      rw [e1] at z; cases z
      cases e2
      obtain ⟨o, q, nn⟩ := E1.trk Dn (List.mem_append_right _ ha)
      rw [hD] at q; cases q
    let Z : Nat → Hp → Prop := fun i H => Same H1 H ∧ EnvD X.K F (Dn :: ow) (L2.wipe σ (own.map (·.2))) (wipeD δ (own.map (·.2))) H ∧ ∃ kvs acc, H Dn = some (.dK kvs) ∧ kvs.length ≤ i ∧ RepKs X.K (sub H (F.ls0 ++ (Dn :: ow))) kvs acc ∧ compD g mt mk mv (wipeD δ (own.map (·.2))) (ds.drop i) acc P
    refine ⟨fun i n H => n = ds.length - i ∧ i ≤ ds.length ∧ Z i H, ⟨_, rfl, Nat.zero_le _, same_upd hD, (E1.wipe _).grab hD (same_upd hD) ⟨_, upd_same, plain_of⟩, [], [], upd_same, Nat.le_refl _, .nil, hds⟩, ?_⟩
    rintro i n H2 ⟨rfl, hi2, s2, E2, kvs, acc, hx, hl, rx, q2⟩
    have sg : Grow (flo ba H1 (F.ls0 ++ ow)) H2 := flo_le.trans s2.ob
    have sb : Grow (sub H1 (F.ls0 ++ ow)) (sub H2 (F.ls0 ++ (Dn :: ow))) := by
      rw [← sub_congr (H := H2) (mem_swap (ls := F.ls0) (own := ow) (p := Dn))]
      exact sub_fresh hD s2
    by_cases hlt : i < ds.length
    · refine .inr ⟨ok.go i H2 sg hlt, Z (i + 1), fun H' z => ⟨_, (by omega), rfl, hlt, z⟩, fun x H3 y => ?_⟩
      obtain ⟨d, ed, s3, r3⟩ := ok.yld i H2 x H3 (F.ls0 ++ (Dn :: ow)) sg sb E2.trk hlt y
      rw [drop_get ed] at q2
      have hz : kvs.length < sizeLine := Nat.lt_of_le_of_lt hl (Nat.lt_of_lt_of_le hlt ok.sz)
      refine ⟨F, Dn :: ow, _, d, _, E2.grow s3, r3, q2, fun σ4 δ4 E4 w4 q4 => ⟨by rw [w4]; exact wipe_wipe, F, Dn :: ow, δ4, _, NoE, ⟨E4, noPass⟩, q4, fun b H5 p5 s5 => ?_⟩⟩
      cases b with
      | false =>
        have p5' : compD g mt mk mv (wipeD δ (own.map (·.2))) (ds.drop (i + 1)) acc P := by simpa using p5
        exact iteF ⟨(s2.trans s3).trans s5, E2.grow (s3.trans s5), kvs, acc, s5 _ _ (s3 _ _ hx), Nat.le_succ_of_le hl, rx.mono (sub_same (s3.trans s5)), p5'⟩
      | true =>
        rw [if_pos rfl] at p5
        refine iteT ⟨F, Dn :: ow, δ4, _, NoE, ⟨E4.grow s5, noPass⟩, p5, fun kd kv H6 p6 s6 r6 => ⟨F, Dn :: ow, δ4, _, NoE, ⟨(E4.grow s5).grow s6, noPass⟩, p6, fun yd v H7 ⟨key, ek, p7⟩ s7 r7 => ?_⟩⟩
        subst ek
        have ekv := kV_of r6
        subst ekv
        have s67 := s6.trans s7
        have hx7 := s67 _ _ (s5 _ _ (s3 _ _ hx))
        have all := ((s3.trans s5).trans s67)
        have es : sub (upd H7 Dn (.dK (putK kvs key v))) (F.ls0 ++ (Dn :: ow)) = sub H7 (F.ls0 ++ (Dn :: ow)) := sub_upd (List.mem_append_right _ List.mem_cons_self)
        have sn : Same H1 (upd H7 Dn (.dK (putK kvs key v))) := Same.put (s2.trans all) hD hx7
        refine ⟨kvs, key, rfl, hx7, hz, sn, (E2.grow all).poke List.mem_cons_self hx7 nodn, putK kvs key v, putD acc key yd, upd_same, ?_, ?_, p7⟩
        · have := putK_len kvs key v
          omega
        · rw [es]
          exact (rx.mono (sub_same all)).put r7.clean
    · have e : i = ds.length := by omega
      subst e
      rw [List.drop_length] at q2
      refine .inl ⟨ok.stop _ H2 sg rfl, q _ Dn H2 q2 (s1.free hD) (s1.trans s2) (.d hx (Nat.le_trans hl ok.sz) ?_)⟩
      rw [sub_congr (H := H2) (mem_swap (ls := F.ls0) (own := ow) (p := Dn))]
      exact rx
/-! ### list(d.items()) -/
def rItemsY : V → Hp → VK → Prop := fun x H Q => ∃ (d : Addr) (kvs : List (Key × V)), x = .ref d ∧ Rd H d (.dK kvs) ∧
  ∀ (H' : Hp) (p : Addr) (ts : List Addr), (∀ b o, H b = some o → H' b = some o) → H p = none → (∀ t ∈ ts, H t = none) → p ∉ ts → H' p = some (.lst (ts.map V.ref)) → Paired (fun (t : Addr) (q : Key × V) => H' t = some (.tup [kV q.1, q.2])) ts kvs → Q (.ref p) H'
theorem pe_itemsY {te : TE} (hc : X.calm = true) (he : PE X e te) (hg : Gl X "list") (hm : X.mg "list" = none) (hv : bootBuiltins "list" = some (.type "list")) (hbase : attributeBase e "items" X.env (eval e X.env) = eval e X.env := by rfl) (hline : (apos.endLine == cpos.line) = true := by rfl)
    (hs : starEach [.Call (.Attribute e "items" apos) [] [] cpos] X.env = (false, eval (.Call (.Attribute e "items" apos) [] [] cpos) X.env) :: starEach [] X.env := by rfl) :
    PE X (.Call (.Name "list" p) [.Call (.Attribute e "items" apos) [] [] cpos] [] pos) (fun σ H Q => te σ H fun x H1 => rItemsY x H1 Q) := by
  refine ⟨fun pins s σ H Q I hq => ?_⟩
  refine wpAny_Call_Name_kw (ld_blt I hg hm hv (PyProof.Rows.callWith_type1 ?_ hs rfl))
  rw [hs]
  change wpAny _ _ (spliced ((false, eval (.Call (.Attribute e "items" apos) [] [] cpos) X.env) :: backTo pos (starEach [] X.env))) _ _ s
  refine Calls.spliced_cons ?_
  refine wpAny_Call_method (T := "dict") (id := "dict.items") hbase rfl hline F.plainAttrs_dict F.slot_dict_items F.type_dict_items (thn (he.run pins s σ H _ I hq) fun u s1 ⟨x, H1, I1, rx, d, kvs, ex, hd, q⟩ => ?_)
  subst ex
  obtain rfl : u = Value.ref d := rx
  obtain ⟨hz, hs0, vs, kv, hdo⟩ := dk_rd I1.hok hd
  obtain ⟨ep, hat⟩ := hdo.dictAt
  have lk := kv.length
  have I2 : Inv X pins σ H1 { s1 with heap := s1.heap.push { cls := .type "dict_items", data := .fields #[.ref d] } } := I1.kept (t' := s1.toks) fun b ob q => Heap.get?_push_of_some _ q
  refine ⟨hdo.typeIs, hdo.mapOf.noDict, ?_⟩
  refine method_meetsIn F.slot_dict_items F.entry_dict_items rfl (PySem.evalArgs_none ⟨rfl, hdo.typeIs, F.args_dict_items_1 _, _, meets_dict_items (mixKind X.prog X.w) d hs0, ⟨vs, hdo⟩, ?_⟩)
  refine Calls.spliced_nil (PySem.W.kdx_call (knd := mixKind X.prog X.w) (kvs := vs) (ep := ep) (I1.ok.hd hc) ⟨_, Heap.get?_push_size _ rfl, rfl, rfl⟩ (hat.push _) (by omega) fun h' tk acc c as hk hS hl hG hacc => ?_)
  obtain ⟨H', k1, k2, k3, k4, k5, k6, J⟩ := LiI.items_laid (tk := tk) I2 hz kv hk hS hl hG hacc
  exact ⟨.ref _, H', J, rfl, q H' _ as k1 k2 k3 k4 k5 k6⟩
end
theorem reps_items {K : PySem.W.Frag} {H' : Hp} {H2 : Hp} : ∀ {ts : List Addr} {kvs : List (Key × V)} {ds : List (Key × D)}, Paired (fun (t : Addr) (q : Key × V) => H' t = some (.tup [kV q.1, q.2])) ts kvs → RepKs K H2 kvs ds → (∀ t, t ∈ ts → H2 t = H' t) → Reps K H2 (ts.map V.ref) (ds.map pairKD)
  | _, _, _, .nil, .nil, _ => .nil
  | _, _, _, .cons h t, .cons r rr, e => .cons (.tup (.inl (.inl (by rw [e _ List.mem_cons_self]; exact h))) (by show 2 ≤ sizeLine; rw [sizeLine_eq]; decide) (.cons (rep_key _) (.cons r .nil))) (reps_items t rr fun t ht => e t (List.mem_cons_of_mem _ ht))
def mListItems (ma : TM) : TM := fun δ Q E => ma δ (fun d => ∃ ds : List (Key × D), d = .dict ds ∧ Q (.list (ds.map pairKD))) E
section
variable {X : Cx} {W : WX} {pos p apos cpos : Pos} {ba : Bool} {e : Expr} {ma : TM}
theorem df_listItems (hc : X.calm = true) (he : DE X W e ba ma) (hg : Gl X "list") (hm : X.mg "list" = none) (hv : bootBuiltins "list" = some (.type "list")) (hbase : attributeBase e "items" X.env (eval e X.env) = eval e X.env := by rfl) (hline : (apos.endLine == cpos.line) = true := by rfl)
    (hs : starEach [.Call (.Attribute e "items" apos) [] [] cpos] X.env = (false, eval (.Call (.Attribute e "items" apos) [] [] cpos) X.env) :: starEach [] X.env := by rfl) :
    DF X W (.Call (.Name "list" p) [.Call (.Attribute e "items" apos) [] [] cpos] [] pos) (mListItems ma) :=
  PE.imp (pe_itemsY hc he hg hm hv hbase hline hs) fun σ H Q ⟨F, own, δ, P, EK, A, m, q⟩ => ⟨F, own, δ, _, EK, A, m, fun d v H1 ⟨ds, ed, m1⟩ s1 r1 => by
    subst ed
    obtain ⟨a, kvs, rfl, h1, h2, h3⟩ := r1.dict
    refine ⟨a, kvs, rfl, h1, fun H' p ts k1 k2 k3 k4 k5 k6 => ?_⟩
    have s2 : Same H1 H' := Same.of k1
    have trk := (A.env.grow s1).trk
    have out : ∀ t, t ∈ ts → t ∉ p :: (F.ls0 ++ own) := fun t ht z => by
      rcases List.mem_cons.mp z with e | z
      · exact k4 (e ▸ ht)
      · obtain ⟨o, w, nn⟩ := trk t z
        rw [k3 t ht] at w
        cases w
    refine q _ p H' m1 (s1.free k2) (s1.trans s2) (.l k5 ?_ (reps_items k6 (h3.mono (sub_fresh k2 s2)) fun t ht => sub_out (out t ht)))
    rw [List.length_map, k6.length]
    exact h2⟩
end
end DL
set_option Elab.async false
set_option linter.all false
set_option maxRecDepth 100000
set_option maxHeartbeats 4000000
/-! DL31: == of dicts whose values are ints. -/
namespace DL
open PySem PySem.Spec PyProof.Rows L2
variable [TabsC]
def intsV (ks : List (Key × V)) : Prop := ∀ p, p ∈ ks → ∃ i : Int, p.2 = .int i
def intsK (ds : List (Key × D)) : Prop := ∀ p, p ∈ ds → ∃ i : Int, p.2 = .int i
def eqKV (ls : List (Key × V)) (ks : List (Key × V)) : Bool := ks.all fun p => match valV ls p.1 with
  | some w => eqV p.2 w
  | none => false
def sameD : D → D → Bool
  | .int i, .int j => i == j
  | _, _ => false
def eqK (ds es : List (Key × D)) : Bool := ds.length == es.length && ds.all fun p => match valD es p.1 with
  | some w => sameD p.2 w
  | none => false
theorem valV_mem {ls : List (Key × V)} {k : Key} {w : V} (h : valV ls k = some w) : ∃ p, p ∈ ls ∧ p.2 = w := by
  unfold valV at h
  obtain ⟨p, hp, e⟩ := Option.map_eq_some_iff.mp h
  exact ⟨p, List.mem_of_find?_eq_some hp, e⟩
theorem hits_any {A : Around} {s : Shared} {ls : List (Key × V)} {vb : List (Key × Value)} (rb : KV ls vb) (hl : intsV ls) {ks : List (Key × V)} {va : List (Key × Value)} (ra : KV ks va) (hk : intsV ks) : PySem.W.KeqHits A s vb va (eqKV ls ks) := by
  unfold KV at ra
  induction ra with
  | nil => exact .nil
  | @cons p q ps qs h t ih =>
    obtain ⟨h1, h2⟩ := h
    obtain ⟨k, v⟩ := q
    have h1' : p.1 = k := h1
    subst h1'
    obtain ⟨i, ei⟩ := hk p List.mem_cons_self
    have rr := rb.val p.1
    have tail := ih fun p' hm => hk p' (List.mem_cons_of_mem _ hm)
    unfold eqKV
    rw [List.all_cons]
    cases e : valV ls p.1 with
    | none =>
      rw [e] at rr
      exact .miss (RelO.none_of rr)
    | some w =>
      rw [e] at rr
      obtain ⟨y, hy, ry⟩ := rr.some_of
      obtain ⟨p', hp', ew⟩ := valV_mem e
      obtain ⟨j, ej⟩ := hl p' hp'
      exact .hit hy (eqAt_V h2 ry (by rw [ei]; rfl) (by rw [← ew, ej]; rfl)) tail
def rNeY (K : PySem.W.Frag) : R2 := fun x y H Q => (∃ a b ks ls, x = .ref a ∧ y = .ref b ∧ Rd H a (.dK ks) ∧ Rd H b (.dK ls) ∧ intsV ks ∧ intsV ls ∧ Q (.bl (!(ks.length == ls.length && eqKV ls ks))) H) ∨ rNeD K x y H Q
section
variable {X : Cx}
theorem op_neY (hu : X.A.units + 65 < cLine) : OpR X (compareOp .NotEq) (rNeY X.K) := by
  intro pins s σ H x y v u Q I rx ry h
  rcases h with ⟨a, b, ks, ls, rfl, rfl, ea, eb, ik, il, q⟩ | h
  · obtain rfl : v = Value.ref a := rx
    obtain rfl : u = Value.ref b := ry
    obtain ⟨_, ya, va, ra, da⟩ := dk_rd I.hok ea
    obtain ⟨_, yb, vb, rb, db⟩ := dk_rd I.hok eb
    exact PySem.W.keq_ne (knd := mixKind X.prog X.w) ya yb da db (by omega) (fun _ => hits_any rb il ra ik) (fin_bl I q (by rw [ra.length, rb.length]))
  · exact op_neD (by omega) pins s σ H x y v u Q I rx ry h
end
theorem ints_rep {K : PySem.W.Frag} {H : Hp} : ∀ {ks : List (Key × V)} {ds : List (Key × D)}, RepKs K H ks ds → intsK ds → intsV ks
  | _, _, .nil, _ => fun p hp => by cases hp
  | _, _, .cons r rr, h => fun p hp => by
    rcases List.mem_cons.mp hp with rfl | hp
    · obtain ⟨i, e⟩ := h _ List.mem_cons_self
      have e : _ = D.int i := e
      subst e
      cases r
      exact ⟨i, rfl⟩
    · exact ints_rep rr (fun p hp => h p (List.mem_cons_of_mem _ hp)) p hp
theorem valD_mem {ds : List (Key × D)} {k : Key} {d : D} (h : valD ds k = some d) : (k, d) ∈ ds := by
  unfold valD at h
  obtain ⟨p, hp, e⟩ := Option.map_eq_some_iff.mp h
  have h1 := List.mem_of_find?_eq_some hp
  have h2 := List.find?_some hp
  have h2 := of_decide_eq_true h2
  subst h2 e
  exact h1
theorem eqK_rep {K : PySem.W.Frag} {H : Hp} {ls : List (Key × V)} {es : List (Key × D)} (rl : RepKs K H ls es) (he : intsK es) : ∀ {ks : List (Key × V)} {ds : List (Key × D)}, RepKs K H ks ds → intsK ds → eqKV ls ks = ds.all fun p => match valD es p.1 with
    | some w => sameD p.2 w
    | none => false
  | _, _, .nil, _ => rfl
  | (k, v) :: ks, _ :: ds, .cons r rr, h => by
    have ih := eqK_rep rl he rr fun p hp => h p (List.mem_cons_of_mem _ hp)
    obtain ⟨i, e⟩ := h _ List.mem_cons_self
    have e : _ = D.int i := e
    subst e
    cases r
    unfold eqKV at ih ⊢
    rw [List.all_cons, List.all_cons, ih]
    congr 1
    show (match valV ls k with | some w => eqV (.int i) w | none => false) = match valD es k with | some w => sameD (.int i) w | none => false
    cases ek : valD es k with
    | none =>
      rw [rl.none k ek]
    | some w =>
      obtain ⟨u, hu, ru⟩ := rl.val k ek
      rw [hu]
      obtain ⟨j, ej⟩ := he _ (valD_mem ek)
      have ej : w = D.int j := ej
      subst ej
      cases ru
      rfl
def fEqY (x y : D) (Q : Bool → Prop) : Prop := match x, y with
  | .dict ds, .dict es => intsK ds ∧ intsK es ∧ Q (eqK ds es)
  | x, y => fEq x y Q
def fNeY (x y : D) (Q : Bool → Prop) : Prop := match x, y with
  | .dict ds, .dict es => intsK ds ∧ intsK es ∧ Q (!eqK ds es)
  | x, y => fNe x y Q
theorem link_neY {X : Cx} : LinkCmp X.K (rNeY X.K) fNeY := by
  intro fo ls H x y dx dy P Q rx ry h q
  unfold fNeY at h
  split at h
  · obtain ⟨h1, h2, h⟩ := h
    obtain ⟨a, ks, rfl, a1, a2, a3⟩ := rx.dict
    obtain ⟨b, js, rfl, b1, b2, b3⟩ := ry.dict
    refine .inl ⟨a, b, ks, js, rfl, rfl, a1, b1, ints_rep a3 h1, ints_rep b3 h2, ?_⟩
    rw [eqK_rep b3 h2 a3 h1, a3.len, b3.len]
    exact q _ h
  · exact .inr (link_ne (X := X) fo ls H x y dx dy P Q rx ry h q)
end DL
set_option Elab.async false
set_option linter.all false
set_option maxRecDepth 100000
set_option maxHeartbeats 4000000
/-! DL32: operators of own instances: ==, !=, in, len, str. -/
namespace DL
open PySem PySem.Spec PyProof.Rows L2
variable [TabsC]
/-! ### what a call of an own method gives, from data -/
/-! ### o == e, o != e -/
def okB (others : List Str) (b : D) : Prop := b.tyn.isSome = true ∨ ∃ m fs, b = .obj m fs ∧ m ∈ others
def FirstOwn (K : PySem.W.Frag) (others : List Str) : Prop := ∀ (m n : Str) (Cm Cn : Addr), m ∈ others → n ∈ others → PySem.W.nsIn K mainGlobals m = some (some (.ref Cm)) → PySem.W.nsIn K mainGlobals n = some (some (.ref Cn)) → PySem.W.notFirst K Cn (.ref Cm) = true
theorem FirstOwn.of {K : PySem.W.Frag} {others : List Str} (tbl : List (Str × Addr)) (h1 : others = tbl.map (·.1)) (hns : ∀ p ∈ tbl, PySem.W.nsIn K mainGlobals p.1 = some (some (.ref p.2)))
    (h2 : (tbl.all fun p => tbl.all fun q => PySem.W.notFirst K q.2 (.ref p.2)) = true) : FirstOwn K others := by
  intro m n Cm Cn hm hn em en
  rw [h1] at hm hn
  obtain ⟨p, hp, rfl⟩ := List.mem_map.mp hm
  obtain ⟨q, hq, rfl⟩ := List.mem_map.mp hn
  have ep := hns p hp
  have eq := hns q hq
  rw [ep] at em
  rw [eq] at en
  cases em
  cases en
  exact List.all_eq_true.mp (List.all_eq_true.mp h2 p hp) q hq
section
variable {X : Cx} {W : WX} {a b e : Expr} {ba bb : Bool} {ma mb : TM} {n : Str} {C g : Addr} {k : Nat} {m : FM} {pos p : Pos} {others : List Str} {FF : Fm} {own : List Addr}
def mEqO (n : Str) (others : List Str) (neg : Bool) (m : FM) (ma mb : TM) : TM := fun δ Q E => ma δ (fun a => mb δ (fun b => ∃ fs : List (Str × D), a = .obj n fs ∧ okB others b ∧ m [a, b] (fun r => ∃ c, r = .bool c ∧ Q (.bool (neg ^^ c))) NoE) E) E
/-! ### e in o -/
end
section
variable {X : Cx} {W : WX} {a b e : Expr} {ba bb : Bool} {ma mb : TM} {n : Str} {C g : Addr} {k : Nat} {m : FM} {pos p : Pos}
def mInO (n : Str) (neg : Bool) (m : FM) (ma mb : TM) : TM := fun δ Q E => ma δ (fun a => mb δ (fun b => ∃ fs : List (Str × D), b = .obj n fs ∧ m [b, a] (fun r => ∃ c, r = .bool c ∧ Q (.bool (neg ^^ c))) NoE) E) E
/-! ### len(o), str(o) -/
def mLenO (n : Str) (m : FM) (ma : TM) : TM := fun δ Q E => ma δ (fun a => ∃ fs : List (Str × D), a = .obj n fs ∧ m [a] (fun r => ∃ i : Int, r = .int i ∧ 0 ≤ i ∧ i < 2 ^ 62 ∧ Q r) NoE) E
def mStrO (n : Str) (m : FM) (ma : TM) : TM := fun δ Q E => ma δ (fun a => ∃ fs : List (Str × D), a = .obj n fs ∧ m [a] (fun r => ∃ z, r = .str z ∧ Q r) NoE) E
end
end DL
set_option Elab.async false
set_option linter.all false
set_option maxRecDepth 100000
set_option maxHeartbeats 4000000
/-! DL33: o + e, o - e, o * e of own instances; o[e]. -/
namespace PySem.W
open Lean Elab Tactic Meta PySem PySem.Calls PyProof.Rows
end PySem.W
namespace DL
open PySem PySem.Spec PyProof.Rows L2
variable [TabsC]
section
variable {X : Cx} {W : WX} {a b e : Expr} {ba bb : Bool} {ma mb : TM} {n : Str} {C g : Addr} {k : Nat} {m : FM} {pos p : Pos} {op : Operator}
def mBinO (n : Str) (m : FM) (ma mb : TM) : TM := fun δ Q E => ma δ (fun a => mb δ (fun b => ∃ fs : List (Str × D), a = .obj n fs ∧ (b.tyn.isSome = true ∨ ∃ gs : List (Str × D), b = .obj n gs) ∧ m [a, b] Q E) E) E
end
end DL
set_option Elab.async false
set_option linter.all false
set_option maxRecDepth 100000
set_option maxHeartbeats 4000000
/-! DL34: defs whose last parameter has a default. -/
namespace DL
open PySem PySem.Spec PyProof.Rows L2
variable [TabsC]
section
variable {P : Program} {w : World} {K : PySem.W.Frag} {mg : Str → Option Value} {base : Heap}
theorem fnP_dft {x qual : Str} {st : Stmt} {dvs : List V} {f : Addr} {fd : FuncData} {N ps : List Str} {k : Nat} {sp sb : Sp} (F : FunD K x qual (defArgs st) (defBody st) (defScope st) dvs [] f fd) (S : FnScope N ps (defScope st))
    (har : ∀ (s : Shared) (us : List Value) (vs : List V) (H : Hp) (Q : VK) (E : XK), K.In s.heap → Vals vs us → sp vs H Q E → ∃ vs' us', Vals vs' us' ∧ vs'.length = ps.length ∧ BindsTo s fd ⟨us, []⟩ (ps.zip us') ∧ sb vs' H Q E)
    (hbody : ∀ (cdv : Value) (A : Around) (outer : List Env) (s : Shared) (H : Hp) (vs : List V) (Q : VK) (E : XK), GdOk A base → Room k (A.deeper (envOfC qual (defScope st) s.heap.objs.size f cdv)) → sb vs H Q E →
      ∃ t, PSs (cxOf (L2.CX P w) P w K mg base N qual (defScope st) f cdv A outer s H E) (defBody st) t ∧ t { nx := fun _ H' => Q .non H', rt := Q } (L2.start N vs) H) : FnP P w K mg base (k + 1) f sp := by
  obtain ⟨oc, od, dV, kV, doc, pm, an, cdv, ct, osl, rfl, lk, hcd, _, _⟩ := F.ex
  intro A outer s H us0 vs0 Q E hG hr e0 r0 hsp0
  have KX : K.In s.heap := e0.mod.kin.keeps fun b o e => (e0.bs b o e).1
  obtain ⟨vs, us, r, hl, hb, hsp⟩ := har s us0 vs0 H Q E KX r0 hsp0
  have lim : s.heap.NoLimit := e0.mod.nolimit.keeps fun b o e => (e0.bs b o e).1
  refine codeAny_call_function hr.depth (KX _ _ lk) rfl S.co S.gen rfl (PySem.W.codeRec_of KX hcd) (hb _ _ _ _ ?_)
  refine wpAny_newFunctionEnv_cells S.kind (fun ⟨n, v⟩ hy => ?_) fun env he s1 x => ?_
  · rcases S.par n (List.of_mem_zip hy).1 with q | q
    · exact .inl q
    · exact .inr ⟨q, PySem.W.cellsFrom_some _ _ _ (.inl q)⟩
  subst he
  refine ⟨lim.keeps x.toInCall.keep, codeAny_func ?_⟩
  have I : Inv (cxOf (L2.CX P w) P w K mg base N qual (defScope st) f cdv A outer s H E) [] (L2.start N vs) H s1 := inv_start S hr.hd e0 hl r x
  obtain ⟨t, ht, hw⟩ := hbody cdv A outer s H vs Q E hG (hr.deeper _) hsp
  refine wpAny_mono (ht.run [] s1 _ H _ I hw) (fun fl s' hs => ?_) fun e s' hs => hs
  cases fl with
  | ret u =>
    obtain ⟨v, σ', H', J, rv, q⟩ := hs
    exact ⟨v, H', J.os, J.bare, J.base, J.hok, rv, q⟩
  | next =>
    obtain ⟨σ', H', J, q⟩ := hs
    exact ⟨V.non, H', J.os, J.bare, J.base, J.hok, rfl, q⟩
  | brk =>
    obtain ⟨_, _, _, q⟩ := hs
    exact q.elim
  | cont =>
    obtain ⟨_, _, _, q⟩ := hs
    exact q.elim
variable {x qual : Str} {st : Stmt} {f : Addr} {fd : FuncData} {N ps : List Str} {k : Nat} {m : SM}
theorem fnM_dft {dv : V} {dd : D} (F : FunD K x qual (defArgs st) (defBody st) (defScope st) [dv] [] f fd) (S : FnScope N ps (defScope st)) (hb0 : ∃ ds, Vals [dv] ds ∧ Binds K fd ps ds) (hb1 : ∃ ds, Vals [] ds ∧ Binds K fd ps ds) (hdd : ∀ H, Rep K H dv dd) (hN : N ≠ [])
    (hbody : ∀ (cdv : Value) (A : Around) (outer : List Env) (s : Shared) (H : Hp) (E : XK), GdOk A base → Room k (A.deeper (envOfC qual (defScope st) s.heap.objs.size f cdv)) →
      DSs (cxOf (L2.CX P w) P w K mg base N qual (defScope st) f cdv A outer s H E) (Wof E) (defBody st) m) : FnM P w K mg base (k + 1) f (mFunMD ps.length N.length [dd] m) := by
  refine fnP_dft F S (sb := spM K (mFunM ps.length N.length m)) (fun s us vs H Q E hK r h => ?_) fun cdv A outer s H vs Q E hG hr h => ?_
  · obtain ⟨fo, x, C, dx, n, ws, fs, dfs, ds, PQ, EK, ev, hx, ht, tb, hn, ha, rf, rs, ⟨h1, h2, hm⟩, q⟩ := id h
    subst ev
    have el : us.length = ds.length + 1 := by rw [← r.length, List.length_cons, rs.length]
    by_cases full : ds.length + 1 = ps.length
    · obtain ⟨us0, e0, b⟩ := hb1
      cases e0
      have e2 : ds.length + 1 + [dd].length - ps.length = 1 := by show ds.length + 1 + 1 - ps.length = 1; omega
      rw [e2] at hm
      have b := b s us hK (by rw [List.append_nil]; omega)
      rw [List.append_nil] at b
      refine ⟨.ref x :: ws, us, r, by rw [List.length_cons, rs.length]; exact full, b, fo, x, C, dx, n, ws, fs, dfs, ds, PQ, EK, rfl, hx, ht, tb, hn, ha, rf, rs, ⟨full, ?_⟩, q⟩
      simpa using hm
    · have lack : ds.length + 2 = ps.length := by
        have : [dd].length = 1 := rfl
        omega
      obtain ⟨us0, e0, b⟩ := hb0
      have e2 : ds.length + 1 + [dd].length - ps.length = 0 := by show ds.length + 1 + 1 - ps.length = 0; omega
      rw [e2] at hm
      have l0 : us0.length = 1 := by rw [← e0.length]; rfl
      have b := b s us hK (by rw [List.length_append]; omega)
      refine ⟨(.ref x :: ws) ++ [dv], us ++ us0, r.append e0, by rw [List.length_append, List.length_cons, rs.length]; exact lack, b, fo, x, C, dx, n, ws ++ [dv], fs, dfs, ds ++ [dd], PQ, EK, rfl, hx, ht, tb, hn, ha, rf, rs.append (.cons (hdd _) .nil), ⟨by rw [List.length_append]; exact lack, hm⟩, q⟩
  · obtain ⟨fo, x, C, dx, n, ws, fs, dfs, ds, PQ, EK, rfl, hx, ht, tb, hn, ha, rf, rs, ⟨hl, hm⟩, hq, he⟩ := h
    exact ⟨_, hbody cdv A outer s H E hG hr, ⟨fo, sub H [x], sub H fo⟩, [], _, _, env_startM hN hx ht tb hn ha rf rs, hm, links_endM ht hq he⟩
end
end DL
set_option Elab.async false
set_option linter.all false
set_option maxRecDepth 100000
set_option maxHeartbeats 4000000
/-! DL35: list * int, x.append(y.pop(e)), sum(d.values()), readings of dict rules. -/
namespace DL
open PySem PySem.Spec PyProof.Rows L2
variable [TabsC]
/-! ### list * int -/
theorem Reps.flat {K : PySem.W.Frag} {H : Hp} {xs : List V} {ds : List D} (r : Reps K H xs ds) : ∀ n : Nat, Reps K H (List.replicate n xs).flatten (List.replicate n ds).flatten
  | 0 => .nil
  | n + 1 => by
    rw [List.replicate_succ, List.replicate_succ, List.flatten_cons, List.flatten_cons]
    exact r.append (Reps.flat r n)
theorem flat_len {α : Type} (xs : List α) : ∀ n : Nat, (List.replicate n xs).flatten.length = xs.length * n
  | 0 => by simp
  | n + 1 => by rw [List.replicate_succ, List.flatten_cons, List.length_append, flat_len xs n, Nat.mul_succ, Nat.add_comm]
section
variable {X : Cx} {W : WX} {a b c e : Expr} {ba bb : Bool} {ma mb : TM} {pos p apos cpos : Pos}
def mRep (ma mb : TM) : TM := fun δ Q E => ma δ (fun x => mb δ (fun y => ∃ ds k, x = .list ds ∧ y = .int k ∧ -(2 ^ 62) ≤ k ∧ k < 2 ^ 62 ∧ ds.length * k.toNat ≤ sizeLine ∧ Q (.list (List.replicate k.toNat ds).flatten)) E) E
/-! ### x.append(y.pop(e)) -/
theorem Reps.erase {K : PySem.W.Frag} {H : Hp} : ∀ {xs : List V} {ds : List D} (n : Nat), Reps K H xs ds → Reps K H (xs.eraseIdx n) (ds.eraseIdx n)
  | _, _, _, .nil => .nil
  | _, _, 0, .cons _ r => r
  | _, _, n + 1, .cons h r => .cons h (Reps.erase n r)
def sAppPop (i j : Nat) (ma : TM) : SM := fun δ k => ∃ ds, δ[i]? = some (.m (.list ds)) ∧ ∃ es, δ[j]? = some (.m (.list es)) ∧ ma δ (fun d => ∃ (n : Nat) (x : D), d = .int n ∧ es[n]? = some x ∧ ds.length < sizeLine ∧ k.nx ((δ.set j (.m (.list (es.eraseIdx n)))).set i (.m (.list (ds ++ [x]))))) (k.er δ)
end
end DL
namespace DL
open PySem PySem.Spec PyProof.Rows L2
variable [TabsC]
/-! ### sum(d.values()) -/
def mSumVals (ma : TM) : TM := fun δ Q E => ma δ (fun d => ∃ (ds : List (Key × D)) (ns : List Int), d = .dict ds ∧ ds.map (·.2) = ns.map .int ∧ Q (.int ns.sum)) E
/-! ### readings -/
theorem e_inD {neg : Bool} {x : D} {ds : List (Key × D)} {Q : Bool → Prop} : fInY neg x (.dict ds) Q = ∃ key : Key, x = keyD key ∧ Q (neg ^^ (valD ds key).isSome) := rfl
theorem e_lenD {ds : List (Key × D)} {Q : D → Prop} : fLenY [.dict ds] Q = Q (.int ds.length) := rfl
theorem e_listD {ds : List (Key × D)} {Q : D → Prop} : fListY [.dict ds] Q = Q (.list (ds.map fun kv => keyD kv.1)) := rfl
theorem e_tupD {ds : List (Key × D)} {Q : D → Prop} : fTupleY [.dict ds] Q = Q (.tup (ds.map fun kv => keyD kv.1)) := rfl
theorem e_eqD {ds es : List (Key × D)} {Q : Bool → Prop} : fEqY (.dict ds) (.dict es) Q = (intsK ds ∧ intsK es ∧ Q (eqK ds es)) := rfl
theorem e_neD {ds es : List (Key × D)} {Q : Bool → Prop} : fNeY (.dict ds) (.dict es) Q = (intsK ds ∧ intsK es ∧ Q (!eqK ds es)) := rfl
theorem e_keyI {i : Int} {P : Key → Prop} : (∃ key : Key, D.int i = keyD key ∧ P key) = P (.inl i) := by
  refine propext ⟨fun ⟨k, e, h⟩ => ?_, fun h => ⟨.inl i, rfl, h⟩⟩
  cases k with
  | inl j => injection e with e; subst e; exact h
  | inr z => injection e
theorem e_keyS {z : Str} {P : Key → Prop} : (∃ key : Key, D.str z = keyD key ∧ P key) = P (.inr z) := by
  refine propext ⟨fun ⟨k, e, h⟩ => ?_, fun h => ⟨.inr z, rfl, h⟩⟩
  cases k with
  | inl j => injection e
  | inr y => injection e with e; subst e; exact h
end DL
set_option Elab.async false
set_option linter.all false
set_option maxRecDepth 100000
set_option maxHeartbeats 4000000
/-! DL36: a, b = [..], [..], both one's own; d.get's form. -/
namespace DL
open PySem PySem.Spec PyProof.Rows L2
variable [TabsC]
section
variable {X : Cx} {W : WX} {a b e f o : Expr} {ma mb : TM} {x y : Str} {pos apos cpos : Pos}
def sParMM (i j : Nat) (ma mb : TM) : SM := fun δ k => ma δ (fun d => mb δ (fun e => k.nx ((δ.set i (.m d)).set j (.m e))) (k.er δ)) (k.er δ)
theorem ds_parmm (i j : Nat) {px py pt : Pos} {kt k2 : Nat} {pt2 : Pos} (hc : X.calm = true) (hN : X.N.Nodup) (ha : DF X W a ma) (hb : DF X W b mb) (hi : X.N[i]? = some x := by rfl) (hj : X.N[j]? = some y := by rfl) (hij : i ≠ j := by decide)
    (hx : X.env.scope.names.lookup x = some .local := by rfl) (hy : X.env.scope.names.lookup y = some .local := by rfl) (hs1 : starEach [a, b] X.env = (false, eval a X.env) :: starEach [b] X.env := by rfl) (hs2 : starEach [b] X.env = (false, eval b X.env) :: starEach [] X.env := by rfl)
    (hw : swappedStores [.Tuple [.Name x px, .Name y py] kt pt] (.Tuple [a, b] k2 pt2) X.env = pure (some [x, y]) := by rfl)
    (hs : swapsWithSole [.Tuple [.Name x px, .Name y py] kt pt] (.Tuple [a, b] k2 pt2) pos.line X.env = pure false := by rfl) : DS X W (.Assign [.Tuple [.Name x px, .Name y py] kt pt] (.Tuple [a, b] k2 pt2) pos) (sParMM i j ma mb) :=
  PS.imp (ps_par hc hN hi hj hij hx hy (pa_cons ha (pa_cons hb pa_nil hs2) hs1) hw hs) fun D σ H ⟨F, own, δ, k, E, h, L⟩ => ⟨F, own, δ, _, _, L.at E, h, fun d q H1 p1 hq s1 r1 => by
    have E1 := E.setm i hq s1 r1
    have hn : ∃ o, H1 q = some o ∧ Plain o := by
      cases r1 with
      | l z _ _ => exact ⟨_, z, plain_of⟩
      | d z _ _ => exact ⟨_, z, plain_of⟩
      | t z _ _ => exact ⟨_, z, plain_of⟩
      | o _ z _ => exact ⟨_, z, plain_of⟩
    have G := E.grab hq s1 hn
    exact ⟨F, q :: own, δ, _, _, L.at G, p1, fun d2 p2 H2 pd hp2 s2 r2 => ⟨_, _, rfl, L.nx _ H2 (p2 :: q :: own) _ (E1.setm j hp2 s2 r2) pd⟩⟩⟩
theorem M2.of {m : Str} (base : attributeBase o m X.env (eval o X.env) = eval o X.env := by rfl)
    (few : ((backTo cpos (starEach [e, f] X.env)).all (fun x => !x.1) && (backToKw cpos (keywordEach [] X.env)).all (fun x => x.1.isSome) && decide (([e, f] : List Expr).length + ([] : List Keyword).length + (if ([] : List Keyword).isEmpty then 0 else 1) < 30)) = true := by rfl)
    (line : (apos.endLine == cpos.line) = true := by rfl) (trees : backTo cpos (starEach [e, f] X.env) = [(false, eval e X.env), (false, eval f X.env)] := by rfl) : M2 X o m apos e f cpos := ⟨base, few, line, trees⟩
end
end DL
namespace DL
open PySem PySem.Spec PyProof.Rows L2
theorem mul_l {i j : Int} (h : -(2 ^ 64) < i) (h' : i < 2 ^ 64) : IntMulOk i j := CMul.ok (.inl ⟨h, h'⟩)
theorem mul_r {i j : Int} (h : -(2 ^ 64) < j) (h' : j < 2 ^ 64) : IntMulOk i j := CMul.ok (.inr ⟨h, h'⟩)
end DL
set_option Elab.async false
set_option linter.all false
set_option maxRecDepth 100000
set_option maxHeartbeats 4000000
/-! DL37: tables of ints as plain lists of pairs. -/
namespace DL
open PySem PySem.Spec PyProof.Rows L2
variable [TabsC]
abbrev Tab := List (Int × Int)
def tabD (L : Tab) : List (Key × D) := L.map fun p => (.inl p.1, .int p.2)
def valT (L : Tab) (k : Int) : Option Int := (L.find? fun p => decide (p.1 = k)).map (·.2)
def cntT (L : Tab) (k : Int) : Int := (valT L k).getD 0
def keysT (L : Tab) : List Int := L.map (·.1)
def sortT (L : Tab) : Tab := (setL (keysT L)).map fun k => (k, cntT L k)
theorem valT_none {L : Tab} {k : Int} (h : k ∉ keysT L) : valT L k = none := by
  unfold valT
  rw [List.find?_eq_none.mpr fun p hp => ?_] <;> try rfl
  intro z
  exact h (List.mem_map.mpr ⟨p, hp, of_decide_eq_true z⟩)
theorem valT_mem : ∀ {L : Tab} {p : Int × Int}, (keysT L).Nodup → p ∈ L → valT L p.1 = some p.2
  | q :: r, p, hn, h => by
    have hn := List.nodup_cons.mp hn
    unfold valT
    by_cases e : q.1 = p.1
    · rcases List.mem_cons.mp h with z | z
      · subst z
        rw [List.find?_cons_of_pos (by simp)]
        rfl
      · exact absurd (List.mem_map.mpr ⟨p, z, e.symm⟩) hn.1
    · rw [List.find?_cons_of_neg (by simpa using e)]
      rcases List.mem_cons.mp h with z | z
      · exact absurd (by rw [z]) e
      · exact valT_mem hn.2 z
theorem valD_tab (L : Tab) (k : Int) : valD (tabD L) (.inl k) = (valT L k).map .int := by
  unfold valD tabD valT
  rw [List.find?_map, Option.map_map, Option.map_map]
  have e : ((fun kv : Key × D => decide (kv.1 = .inl k)) ∘ fun p : Int × Int => ((.inl p.1 : Key), D.int p.2)) = fun p => decide (p.1 = k) := by
    funext p
    simp [Function.comp]
  rw [e]
  rfl
theorem tab_keysK (L : Tab) : (tabD L).map (·.1) = (keysT L).map Sum.inl := by
  unfold tabD keysT
  rw [List.map_map, List.map_map] <;> rfl
theorem tab_items (L : Tab) : (tabD L).map pairKD = L.map pairD := by
  unfold tabD
  rw [List.map_map] <;> rfl
theorem tab_len (L : Tab) : (tabD L).length = L.length := by
  unfold tabD
  rw [List.length_map]
theorem putD_new {L : Tab} {k v : Int} (h : k ∉ keysT L) : putD (tabD L) (.inl k) (.int v) = tabD (L ++ [(k, v)]) := by
  unfold putD
  rw [if_neg]
  · unfold tabD
    rw [List.map_append] <;> rfl
  · intro z
    obtain ⟨p, hp, e⟩ := List.any_eq_true.mp z
    obtain ⟨q, hq, rfl⟩ := List.mem_map.mp hp
    have e := of_decide_eq_true e
    cases e
    exact h (List.mem_map.mpr ⟨q, hq, rfl⟩)
theorem sortT_keys (L : Tab) : keysT (sortT L) = setL (keysT L) := by
  unfold sortT keysT
  rw [List.map_map]
  exact List.map_id' _
theorem sortT_nodup (L : Tab) : (keysT (sortT L)).Nodup := by
  rw [sortT_keys]
  exact setL_pair.imp fun z => by omega
theorem cntT_mem {L : Tab} {p : Int × Int} (hn : (keysT L).Nodup) (h : p ∈ L) : cntT L p.1 = p.2 := by
  unfold cntT
  rw [valT_mem hn h] <;> rfl
theorem sortT_mem {L : Tab} (hn : (keysT L).Nodup) {p : Int × Int} : p ∈ sortT L ↔ p ∈ L := by
  unfold sortT
  constructor
  · intro h
    obtain ⟨k, hk, rfl⟩ := List.mem_map.mp h
    obtain ⟨q, hq, rfl⟩ := List.mem_map.mp (setL_mem.mp hk)
    rw [cntT_mem hn hq]
    exact hq
  · intro h
    refine List.mem_map.mpr ⟨p.1, setL_mem.mpr (List.mem_map.mpr ⟨p, h, rfl⟩), ?_⟩
    rw [cntT_mem hn h]
theorem nodup_of_keys {L : Tab} (hn : (keysT L).Nodup) : L.Nodup := by
  unfold keysT at hn
  exact (List.pairwise_map.mp hn).imp fun h e => h (by rw [e])
theorem sortT_perm {L : Tab} (hn : (keysT L).Nodup) : (sortT L).Perm L :=
  (List.perm_ext_iff_of_nodup (nodup_of_keys (sortT_nodup L)) (nodup_of_keys hn)).mpr fun _ => sortT_mem hn
end DL
set_option Elab.async false
set_option linter.all false
set_option maxRecDepth 100000
set_option maxHeartbeats 4000000
/-! DL38: what can be paid out of a table whose sizes are a chain. -/
namespace DL
open PySem PySem.Spec PyProof.Rows L2
variable [TabsC]
structure ChT (L : Tab) : Prop where
  pos : ∀ p, p ∈ L → 1 ≤ p.1 ∧ 0 ≤ p.2
  asc : L.Pairwise fun p q => p.1 < q.1
  dvd : L.Pairwise fun p q => p.1 ∣ q.1
theorem ChT.init {L : Tab} {p : Int × Int} (h : ChT (L ++ [p])) : ChT L ∧ (∀ q, q ∈ L → q.1 < p.1 ∧ q.1 ∣ p.1) ∧ 1 ≤ p.1 ∧ 0 ≤ p.2 := by
  have a := List.pairwise_append.mp h.asc
  have d := List.pairwise_append.mp h.dvd
  have e := h.pos p (List.mem_append_right _ List.mem_cons_self)
  exact ⟨⟨fun q hq => h.pos q (List.mem_append_left _ hq), a.1, d.1⟩, fun q hq => ⟨a.2.2 q hq p List.mem_cons_self, d.2.2 q hq p List.mem_cons_self⟩, e.1, e.2⟩
end DL
set_option Elab.async false
set_option linter.all false
set_option maxRecDepth 100000
set_option maxHeartbeats 4000000
/-! DL39: dict comprehensions that make tables. -/
namespace DL
open PySem PySem.Spec PyProof.Rows L2
variable [TabsC]
/-- every item gives one new pair, or none -/
theorem compD_tab {g : GM} {mt : BM} {mk mv : TM} {δ0 : List DV} {α : Type} (f : α → Int × Int) (c : α → Bool) (dx : α → D) : ∀ {xs : List α} {acc : Tab} {Q : D → Prop},
    (∀ x, x ∈ xs → ∀ (R : Key → D → Prop) (S : Prop), (if c x = true then R (.inl (f x).1) (.int (f x).2) else S) → g (dx x) δ0 fun δ' => mt δ' (fun b => if b = true then mk δ' (fun kd => mv δ' (fun v => ∃ key : Key, kd = keyD key ∧ R key v) NoE) NoE else S) NoE) →
    (keysT (acc ++ (xs.filter c).map f)).Nodup → Q (.dict (tabD (acc ++ (xs.filter c).map f))) → compD g mt mk mv δ0 (xs.map dx) (tabD acc) Q
  | [], acc, Q, _, _, q => by
    rw [List.filter_nil, List.map_nil, List.append_nil] at q
    exact q
  | x :: xs, acc, Q, h, hn, q => by
    rw [List.map_cons]
    unfold compD
    refine h x List.mem_cons_self (fun key v => compD g mt mk mv δ0 (xs.map dx) (putD (tabD acc) key v) Q) (compD g mt mk mv δ0 (xs.map dx) (tabD acc) Q) ?_
    have ih := fun (acc : Tab) => compD_tab (g := g) (mt := mt) (mk := mk) (mv := mv) (δ0 := δ0) f c dx (xs := xs) (acc := acc) (Q := Q) fun y hy => h y (List.mem_cons_of_mem _ hy)
    cases e : c x with
    | false =>
      rw [if_neg Bool.false_ne_true]
      rw [List.filter_cons_of_neg (by rw [e]; exact Bool.false_ne_true)] at hn q
      exact ih acc hn q
    | true =>
      rw [if_pos rfl]
      rw [List.filter_cons_of_pos e, List.map_cons] at hn q
      have es : acc ++ f x :: (xs.filter c).map f = (acc ++ [f x]) ++ (xs.filter c).map f := by simp
      have new : (f x).1 ∉ keysT acc := fun z => by
        unfold keysT at hn z
        rw [List.map_append] at hn
        exact (List.nodup_append.mp hn).2.2 _ z _ List.mem_cons_self rfl
      rw [putD_new new]
      rw [es] at hn q
      exact ih (acc ++ [f x]) hn q
def iOf : D → Int
  | .int i => i
  | _ => 0
theorem e_lk {f : Str} {v : D} {r : List (Str × D)} : List.lookup f ((f, v) :: r) = some v := by
  unfold List.lookup
  simp
end DL
set_option Elab.async false
set_option linter.all false
set_option maxRecDepth 100000
set_option maxHeartbeats 4000000
/-! DL40: f-strings of texts and ints. -/
namespace DL
open PySem PySem.Spec PyProof.Rows L2
variable [TabsC]
def mFmt (ma : TM) : TM := fun δ Q E => ma δ (fun d => (∃ y : Str, d = .str y ∧ y.length ≤ sizeLine ∧ Q (.str y)) ∨ ∃ i : Int, d = .int i ∧ i.natAbs.log2 < 1920 ∧ Q (.str (toString i))) E
def mJs : List TM → Str → List DV → (Str → Prop) → (Er → Prop) → Prop
  | [], acc, _, Q, _ => Q acc
  | m :: ms, acc, δ, Q, E => m δ (fun d => ∃ y : Str, d = .str y ∧ (acc ++ y).length ≤ sizeLine ∧ mJs ms (acc ++ y) δ Q E) E
def mJoined (ms : List TM) : TM := fun δ Q E => mJs ms Str.empty δ (fun out => Q (.str out)) E
end DL
namespace DL
open PySem PySem.Spec PyProof.Rows L2
variable [TabsC]
/-! ### o[e] of an own instance -/
section
variable {X : Cx} {W : WX} {a b : Expr} {ma mb : TM} {n : Str} {C g : Addr} {k : Nat} {m : FM} {pos : Pos}
def mGetO (n : Str) (m : FM) (ma mb : TM) : TM := fun δ Q E => ma δ (fun a => mb δ (fun b => ∃ fs : List (Str × D), a = .obj n fs ∧ m [a, b] Q NoE) E) E
end
end DL
set_option Elab.async false
set_option linter.all false
set_option maxRecDepth 100000
set_option maxHeartbeats 4000000
/-! DL41: enumerate(a tuple). -/
namespace DL
open PySem PySem.Spec PyProof.Rows L2
variable [TabsC]
def enumD (ds : List D) : List D := ds.zipIdx.map fun p => .tup [.int p.2, p.1]
theorem enumD_get {ds : List D} {i : Nat} {d : D} (h : ds[i]? = some d) : (enumD ds)[i]? = some (.tup [.int i, d]) := by
  unfold enumD
  rw [List.getElem?_map, List.getElem?_zipIdx, h]
  simp
theorem enumD_len (ds : List D) : (enumD ds).length = ds.length := by unfold enumD; rw [List.length_map, List.length_zipIdx]
section
variable {X : Cx} {W : WX} {e : Expr} {ba : Bool} {la : LM} {p pos : Pos}
def mEnumT (la : LM) : LM := fun δ P E => la δ (fun ds => ∃ xs, ds = [.tup xs] ∧ P (enumD xs)) E
end
end DL
set_option Elab.async false
set_option linter.all false
set_option maxRecDepth 100000
set_option maxHeartbeats 4000000
/-! DL42: sorted of tuples of ints. -/
namespace DL
open PySem PySem.Spec PyProof.Rows L2
end DL
set_option Elab.async false
set_option linter.all false
set_option maxRecDepth 100000
set_option maxHeartbeats 4000000
/-! DL43: thunks: x(lambda: e), where x is a def that calls what it is handed. -/
namespace DL
open PySem PySem.Spec PyProof.Rows L2
variable [TabsC]
section
variable {X : Cx} {pins : List (Addr × Obj)} {σ : L2.St} {H : Hp} {s : Shared}
abbrev lamQ (X : Cx) : Str := X.env.qual ++ "<lambda>"
abbrev thkO (X : Cx) (pr : Arguments) (bd : Expr) (sc : Scope) (pm ct : Value) (c2 : Addr) : Obj := PySem.W.kla_obj "<lambda>" (lamQ X) pr bd sc (cloFrom X.env.cells sc.names []) pm c2 ct
/-- the table P is written once more, the code object at c2 is new: nothing else is touched -/
theorem same_code {P c2 : Addr} {q : Str} {ps : Array Value} {pos : Pos} (hu : ∀ p ∈ TabsC.T, p.1 = P → p.2 = q) (hP : H P = some (.tbl ps)) (ok : TriplesOk ps.toList) (nC : H c2 = none) :
    Same H (upd (upd H P (.tbl (ps ++ #[rawInt pos.line, rawInt pos.col, .ref c2]))) c2 (LamX.CodeO c2 q)) := by
  have ne : P ≠ c2 := ne_of_none hP nC
  have out : ∀ b, b ≠ P → b ≠ c2 → upd (upd H P (.tbl (ps ++ #[rawInt pos.line, rawInt pos.col, .ref c2]))) c2 (LamX.CodeO c2 q) b = H b := fun b n1 n2 => by rw [upd_ne n2, upd_ne n1]
  have here : upd (upd H P (.tbl (ps ++ #[rawInt pos.line, rawInt pos.col, .ref c2]))) c2 (LamX.CodeO c2 q) P = some (.tbl (ps ++ #[rawInt pos.line, rawInt pos.col, .ref c2])) := by rw [upd_ne ne, upd_same]
  have grow : ∀ b o, H b = some o → isTbl o = false → upd (upd H P (.tbl (ps ++ #[rawInt pos.line, rawInt pos.col, .ref c2]))) c2 (LamX.CodeO c2 q) b = some o := fun b o e n => by
    rw [out b (fun z => ?_) (ne_of_none e nC)]
    · exact e
    · rw [z, hP] at e; cases e; cases n
  refine ⟨⟨grow⟩, fun t p hp => ?_, fun b z => ?_⟩
  · obtain ⟨ts, t1, t2, t3⟩ := t p hp
    by_cases hb : p.1 = P
    · rw [hu p hp hb]
      rw [hu p hp hb] at t3
      rw [hb] at t1 ⊢
      rw [hP] at t1
      cases t1
      have eL : (ps ++ #[rawInt pos.line, rawInt pos.col, .ref c2]).toList = ps.toList ++ [rawInt pos.line, rawInt pos.col, .ref c2] := by simp
      refine ⟨_, here, by rw [eL]; exact PySem.TriplesOk_snoc _ _ _ _ ok, fun po cv hcv => ?_⟩
      rw [eL] at hcv
      rcases LamX.among_app _ ok hcv with z | z
      · obtain ⟨c0, e1, e2⟩ := t3 po cv z
        exact ⟨c0, e1, grow _ _ e2 rfl⟩
      · exact ⟨c2, z, upd_same⟩
    · refine ⟨ts, by rw [out _ hb (ne_of_none t1 nC)]; exact t1, t2, fun po cv hcv => ?_⟩
      obtain ⟨c0, e1, e2⟩ := t3 po cv hcv
      exact ⟨c0, e1, grow _ _ e2 rfl⟩
  · by_cases h1 : b = c2
    · rw [h1]; exact nC
    · by_cases h2 : b = P
      · rw [h2, here] at z; cases z
      · rw [out b h2 h1] at z; exact z
theorem lam_new {c P : Addr} {pr : Arguments} {bd : Expr} {sc : Scope} {pos : Pos} {EE : Value → Shared → Prop} {Q : Value → Shared → Prop} (I : Inv X pins σ H s) (tb : LamX.TabB X.base X.mg c P) (hcode : X.env.code = .ref c)
    (hm : (P, lamQ X) ∈ TabsC.T) (hu : ∀ p ∈ TabsC.T, p.1 = P → p.2 = lamQ X) (tabs : LamX.Tabs TabsC.T H) (nodef : defaultsOf pr X.env = ([], [])) (L : LamX.LamS X.env.scope sc)
    (go : ∀ (f c2 : Addr) (pm ct : Value) (H1 : Hp) (s1 : Shared), Inv X pins σ H1 s1 → Same H H1 → s1.heap.get? f = some (thkO X pr bd sc pm ct c2) → H1 f = none → f ∉ frs X.stack → H1 c2 = some (LamX.CodeO c2 (lamQ X)) → Q (.ref f) s1) :
    wpAny (model X.prog X.w) X.A (eval (.Lambda pr bd sc pos) X.env) Q EE s := by
  obtain ⟨ps, hP, ok, tell⟩ := tabs _ hm
  have there : s.heap.get? P = some (PySem.W.tabObj ps) := I.hok P _ hP
  have out : ∀ f, s.heap.objs.size ≤ f → f ∉ frs X.stack := fun f hf z => by
    rcases List.mem_cons.mp (I.stkSub _ z) with e | e
    · have lt := I.lt
      rw [← e] at lt
      exact Nat.lt_irrefl _ (Nat.lt_of_lt_of_le lt hf)
    · exact I.nofs hf e
  have clo := closure_ok (env := X.env) (scope := sc) (L.has I.ok)
  have bm := tb.bm.keeps I.bk
  have hd := tb.code.keeps I.bk
  refine PySem.W.kla_eval nodef ?_
  rcases hc : codeAmong pos ps.toList with _ | cv
  · refine PySem.W.kla_makeFunction clo I.ok.glob (I.mod.glob.keeps I.bk) hcode hd there ok hc tb.gP bm fun c2 ct h2 tk hx hge hlt hrec htb => ?_
    obtain ⟨c3, oc, vs, t, e2, hoc, hdat, hv⟩ := hrec
    cases e2
    have nC : H c2 = none := I.hok.fresh hge
    have far : s.heap.objs.size ≤ h2.objs.size := Nat.le_trans hge (Nat.le_of_lt hlt)
    have up : ∀ (b : Addr) (o : Obj), h2.get? b = some o → (h2.push (thkO X pr bd sc ((X.mg "__name__").getD .none) ct c2)).get? b = some o := fun b o e => Heap.get?_push_of_some _ e
    refine go h2.objs.size c2 ((X.mg "__name__").getD .none) ct _ _ (LamX.inv_table (t' := tk) (more := #[rawInt pos.line, rawInt pos.col, .ref c2]) I hP (fun b o hb e => up b o (hx b o hb e)) (up _ _ htb) hge ⟨oc, vs, t, up _ _ hoc, hdat, hv⟩)
      (same_code hu hP ok nC) (Heap.get?_push_size _ rfl) ?_ (out _ far) upd_same
    rw [upd_ne (Nat.ne_of_gt hlt), upd_ne (Nat.ne_of_gt (Nat.lt_of_lt_of_le (Heap.lt_size there) far))]
    exact I.hok.fresh far
  · obtain ⟨c2, rfl, known⟩ := tell pos cv hc
    exact PySem.W.kla_makeFunctionHit clo I.ok.glob (I.mod.glob.keeps I.bk) hcode hd there ok hc bm fun ct h2 tk hx far =>
      go h2.objs.size c2 ((X.mg "__name__").getD .none) ct H _ (I.kept (t' := tk) fun b o e => Heap.get?_push_of_some _ (hx b o e)) (Same.refl H) (Heap.get?_push_size _ rfl) (I.hok.fresh far) (out _ far) known
end
/-! ### what the def that is handed the thunk may do with it -/
abbrev TL := (D → Prop) → (Er → Prop) → Prop
def mThk (i : Nat) (f : Addr) (Hc : Hp) (tl : TL) : TM := fun δ Q E => δ[i]? = some (.v (.opq f Hc)) ∧ tl Q E
abbrev goCx (P : Program) (w : World) (K : PySem.W.Frag) (mg : Str → Option Value) (base : Heap) (Ng : List Str) (qg : Str) (sg : Scope) (g : Addr) (cdg : Value) (A : Around) (outer : List Env) (s : Shared) (H : Hp) (Eg : XK) (pn : List (Addr × Obj)) (xe : Value → Shared → Prop) : Cx :=
  (cxOf (L2.CX P w) P w K mg base Ng qg sg g cdg A outer s H Eg).tr pn xe
def ThkOk (P : Program) (w : World) (K : PySem.W.Frag) (mg : Str → Option Value) (base : Heap) (kb : Nat) (A : Around) (outer : List Env) (s : Shared) (H : Hp) (f : Addr) (Hc : Hp) (tl : TL) : Prop :=
  ∀ {Ng : List Str} {qg : Str} {sg : Scope} {g : Addr} {cdg : Value} {Eg : XK} {i : Nat} {a : Str} {pn : List (Addr × Obj)} {xe : Value → Shared → Prop} {W : WX} {p1 p2 : Pos}, Ng[i]? = some a → Vis sg a → (a == ("__debug__" : Str)) = false → (a == ("__classdict__" : Str)) = false →
    Room (kb + 1) (A.deeper (envOfC qg sg s.heap.objs.size g cdg)) → Takes (goCx P w K mg base Ng qg sg g cdg A outer s H Eg pn xe) W → DE (goCx P w K mg base Ng qg sg g cdg A outer s H Eg pn xe) W (.Call (.Name a p1) [] [] p2) false (mThk i f Hc tl)
/-- the maker's names as the thunk sees them -/
def demote (δ : List DV) : List DV := δ.map fun
  | .v d => .v d
  | _ => .u
section
variable {X : Cx} {pins : List (Addr × Obj)} {σ : L2.St} {H : Hp} {s : Shared}
theorem demote_get {δ : List DV} {i : Nat} {dv : DV} (h : (demote δ)[i]? = some dv) : dv = .u ∨ ∃ d, dv = .v d ∧ δ[i]? = some (.v d) := by
  unfold demote at h
  rw [List.getElem?_map] at h
  cases e : δ[i]? with
  | none => rw [e] at h; cases h
  | some x =>
    rw [e] at h
    cases x with
    | u => exact .inl (Option.some.inj h).symm
    | v d => exact .inr ⟨d, (Option.some.inj h).symm, rfl⟩
    | m d => exact .inl (Option.some.inj h).symm
    | s d => exact .inl (Option.some.inj h).symm
theorem env_thunk {K : PySem.W.Frag} {F : Fm} {own Lz : List Addr} {δ : List DV} {HZ : Hp} (E : EnvD K F own σ δ H) (g : Grow (sub H (F.ls0 ++ own)) (sub HZ Lz)) (tb : LamX.Tabs TabsC.T HZ) (tr : ∀ l, l ∈ Lz → ∃ o, HZ l = some o ∧ Plain o) : EnvD K ⟨Lz, HZ, sub HZ Lz⟩ [] σ (demote δ) HZ := by
  have e : Lz ++ [] = Lz := List.append_nil Lz
  have no : ∀ (i : Nat) (d : D), (demote δ)[i]? ≠ some (.s d) ∧ (demote δ)[i]? ≠ some (.m d) := fun i d => by
    constructor
    · intro z
      rcases demote_get z with q | ⟨_, q, _⟩ <;> cases q
    · intro z
      rcases demote_get z with q | ⟨_, q, _⟩ <;> cases q
  refine ⟨Same.refl HZ, by rw [e]; exact Grow.refl _, tb, fun l h => absurd h (by simp), fun l h => tr l (by rw [← e]; exact h), fun l h => absurd h (by simp), ?_, fun i dv h => ?_, fun i d a h => absurd h (no i d).1, fun i j di dj a h => absurd h (no i di).1, fun i j di dj a h => absurd h (no i di).2⟩
  · rw [E.len]; unfold demote; rw [List.length_map]
  · rcases demote_get h with rfl | ⟨d, rfl, q⟩
    · have hl : i < σ.length := by
        have := (List.getElem?_eq_some_iff.mp h).1
        unfold demote at this
        rw [List.length_map] at this
        rw [E.len]; exact this
      exact ⟨_, List.getElem?_eq_getElem hl, trivial⟩
    · obtain ⟨s1, e1, x, rfl, r⟩ := E.slot i _ q
      exact ⟨_, e1, x, rfl, by rw [e]; exact r.mono g⟩
/-- the thunk that was made at s may be called by whom it is handed to -/
theorem thk_ok {F : Fm} {own : List Addr} {δ : List DV} {sc : Scope} {pr : Arguments} {bd : Expr} {f c2 : Addr} {pm ct : Value} {kb : Nat} {mb : TM} (I : Inv X pins σ H s) (EV : EnvD X.K F own σ δ H) (L : LamX.LamS X.env.scope sc)
    (hf : s.heap.get? f = some (thkO X pr bd sc pm ct c2)) (fN : H f = none) (fO : f ∉ frs X.stack) (hco : sub H (F.ls0 ++ own) c2 = some (LamX.CodeO c2 (lamQ X)))
    (nob : bindArgs (PySem.W.kla_fn "<lambda>" (lamQ X) pr bd sc (cloFrom X.env.cells sc.names []) pm (.ref c2) ct) ⟨[], []⟩ = pure [])
    (body : ∀ (A : Around) (outer : List Env) (s : Shared) (H : Hp) (E : XK), GdOk A X.base → Room kb (A.deeper (LamX.lamEnv X sc s.heap.objs.size f c2)) → DE (LamX.lamCx X A outer s H E sc f c2) (Wof E) bd false mb) (hG : GdOk X.A X.base) :
    ThkOk X.prog X.w X.K X.mg X.base kb X.A X.stack s H f (sub H (F.ls0 ++ own)) fun Q E => mb (demote δ) Q E := by
  intro Ng qg sg g cdg Eg i a pn xe W p1 p2 hN hv hdb hcd hr tk
  refine ⟨fun pinsZ sZ σZ HZ Q IZ ⟨F2, own2, δ2, P, EK, AZ, ⟨hd, mm⟩, q⟩ => ?_⟩
  obtain ⟨sv, at_i, x, rfl, rx⟩ := AZ.env.slot i _ hd
  cases rx with
  | opq gr =>
  have cZ : HZ c2 = some (LamX.CodeO c2 (lamQ X)) := sub_le _ _ (gr _ _ hco rfl) rfl
  refine wpAny_Call_Name_kw (thn ((pe_var (pos := p1) (i := i) hN hv hdb hcd).run pinsZ sZ σZ HZ (fun v H1 => v = .ref f ∧ H1 = HZ) IZ ⟨.ref f, at_i, rfl, rfl⟩) fun u s1 ⟨v, H1, I1, rel, ev, eH⟩ => ?_)
  subst ev eH
  obtain rfl : u = Value.ref f := rel
  have f1 : s1.heap.get? f = some (thkO X pr bd sc pm ct c2) := I1.base.keep f _ hf fN fO fun z => nomatch (show f ∈ ([] : List Addr) from z)
  refine PySem.W.callWith_F0 ⟨_, _, _, _, f1⟩ ?_
  obtain ⟨⟨oc, vs, t, hoc, hdat, hvs⟩, _, _⟩ := I1.hok c2 _ cZ
  have inner : codeAny (model X.prog X.w) (X.A.deeper (envOfC qg sg s.heap.objs.size g cdg)) (.call (.ref f) ⟨[], []⟩) (CR (L2.CX X.prog X.w) (envOfC qg sg s.heap.objs.size g cdg :: X.stack) X.prog X.w H1 s1 Q fun cls dd H' => W cls dd σZ H') s1 := by
    refine PySem.W.kla_callFunE hr.depth f1 rfl L.co L.gen rfl ⟨c2, oc, vs, t, rfl, hoc, hdat, hvs⟩ ?_
    rw [nob]
    refine wpAny_pure (wpAny_newFunctionEnv (fun y hy => (L.own y hy).2) (fun y hy => absurd hy (by simp)) (fun h2 hns hsb => ⟨I1.nolimit.fresh _ hsb, ?_⟩) L.kind)
    have keep : ∀ b o, s1.heap.get? b = some o → h2.get? b = some o := fun b o e => hsb.extBut b o (Nat.ne_of_lt (Heap.lt_size e)) (Heap.get?_push_of_some _ e)
    have J : Inv (LamX.lamCx X (X.A.deeper (envOfC qg sg s.heap.objs.size g cdg)) (envOfC qg sg s.heap.objs.size g cdg :: X.stack) s1 H1 (fun cls dd H' => W cls dd σZ H') sc f c2) [] σ H1 { s1 with heap := h2, toks := s1.toks + ([] : List (Str × Value)).length } :=
      LamX.lam_start2 I L I1.env0 hr.hd I1.base hns keep
    have eL : (F2.ls0 ++ own2) ++ [] = F2.ls0 ++ own2 := List.append_nil _
    refine PySem.W.kla_codeExpr (wpAny_mono ((body (X.A.deeper (envOfC qg sg s.heap.objs.size g cdg)) (envOfC qg sg s.heap.objs.size g cdg :: X.stack) s1 H1 (fun cls dd H' => W cls dd σZ H') hG (hr.deeper _)).run [] _ _ H1 Q J ⟨⟨F2.ls0 ++ own2, H1, sub H1 (F2.ls0 ++ own2)⟩, [], demote δ, P, EK, ⟨env_thunk EV gr AZ.env.tabs AZ.env.trk, fun er cls dd H' ke s2 r2 => AZ.pass er cls dd H' ke s2 (by rw [← eL]; exact r2)⟩, mm,
      fun d v H' pd s2 r2 => q d v H' pd s2 (.cl (by have r3 := r2.clean; rw [eL] at r3; exact r3))⟩) (fun v s' hq => ?_) fun e s' hq => hq)
    obtain ⟨v', H', J', rv, q'⟩ := hq
    exact ⟨v', H', J'.os, J'.bare, J'.base, J'.hok, rv, q'⟩
  refine wpAny_call (codeAny_mono inner fun r s' hq => ?_)
  match r, hq with
  | .error e, hq => exact tk e s' (XE.of_call I1 (fun cls dd H' h => h) hq)
  | .ok (.ret u), hq => exact I1.after hq
/-- a def that is handed one thunk -/
def FnT (P : Program) (w : World) (K : PySem.W.Frag) (mg : Str → Option Value) (base : Heap) (kb k : Nat) (g : Addr) (M : TL → TL) : Prop :=
  ∀ (f : Addr) (Hc : Hp) (tl : TL) (A : Around) (outer : List Env) (s : Shared) (H : Hp) (Q : VK) (E : XK), GdOk A base → Room k A → Env0 P w K mg base A outer s H → ThkOk P w K mg base kb A outer s H f Hc tl → spD K (fun ds Q E => ds = [.opq f Hc] ∧ M tl Q E) [.ref f] H Q E →
    codeAny (model P w) A (.call (.ref g) ⟨[.ref f], []⟩) (CR (L2.CX P w) outer P w H s Q E) s
theorem FnT.imp {P : Program} {w : World} {K : PySem.W.Frag} {mg : Str → Option Value} {base : Heap} {kb k : Nat} {g : Addr} {M M' : TL → TL} (F : FnT P w K mg base kb k g M) (h : ∀ tl Q E, M' tl Q E → M tl Q E) : FnT P w K mg base kb k g M' :=
  fun f Hc tl A outer s H Q E hG hr e0 ok ⟨fo, ds, P, EK, t, tb, rs, ⟨e, m⟩, q⟩ => F f Hc tl A outer s H Q E hG hr e0 ok ⟨fo, ds, P, EK, t, tb, rs, ⟨e, h _ _ _ m⟩, q⟩
def mThunk (M : TL → TL) (mb : TM) : TM := fun δ Q E => M (fun Q' E' => mb (demote δ) Q' E') Q E
theorem de_thunk {W : WX} {x : Str} {g c P : Addr} {kb k : Nat} {M : TL → TL} {mb : TM} {sc : Scope} {pr : Arguments} {bd : Expr} {p lp pos : Pos} (G : FnT X.prog X.w X.K X.mg X.base kb k g M) (hG : GdOk X.A X.base) (hr : Room k X.A) (tk : Takes X W) (hg : Gl X x) (hm : X.mg x = some (.ref g)) (hk : PySem.W.keepIn X.K (.ref g) = true)
    (tb : LamX.TabB X.base X.mg c P) (hcode : X.env.code = .ref c) (hq : (P, lamQ X) ∈ TabsC.T) (hu : ∀ p ∈ TabsC.T, p.1 = P → p.2 = lamQ X) (L : LamX.LamS X.env.scope sc)
    (body : ∀ (A : Around) (outer : List Env) (s : Shared) (H : Hp) (E : XK) (f c2 : Addr), GdOk A X.base → Room kb (A.deeper (LamX.lamEnv X sc s.heap.objs.size f c2)) → DE (LamX.lamCx X A outer s H E sc f c2) (Wof E) bd false mb)
    (nodef : defaultsOf pr X.env = ([], []) := by rfl) (nob : ∀ (q : Str) (cl : List (Str × Addr)) (pm cv ct : Value), bindArgs (PySem.W.kla_fn "<lambda>" q pr bd sc cl pm cv ct) ⟨[], []⟩ = pure [] := by intros; rfl) (hdb : (x == ("__debug__" : Str)) = false := by decide) :
    DE X W (.Call (.Name x p) [.Lambda pr bd sc lp] [] pos) false (mThunk M mb) := by
  refine ⟨fun pins s σ H Q I ⟨FF, own, δ, PQ, EK, A, mm, q⟩ => ?_⟩
  refine wpAny_Call_Name_kw (ld_glob I hg hm ?_ hdb)
  refine PySem.W.callWith_K (h₀ := X.base) I.ok.mod.kin hk ?_ (by rfl) (by rfl)
  show wpAny _ _ (spliced ((false, eval (.Lambda pr bd sc lp) X.env) :: backTo pos (starEach [] X.env))) _ _ s
  refine Calls.spliced_cons (lam_new I tb hcode hq hu A.env.tabs nodef L fun f c2 pm ct H1 s1 I1 s01 hf fN fO hco => ?_)
  refine Calls.spliced_nil ⟨I1.kIn, ?_⟩
  have A1 := A.on s01
  have nin : c2 ∉ FF.ls0 ++ own := fun z => by
    obtain ⟨o, e, n⟩ := A1.env.trk c2 z
    rw [hco] at e
    cases e
    exact n.2.1 c2 (lamQ X) rfl
  refine wpAny_call (codeAny_mono (G f (sub H1 (FF.ls0 ++ own)) (fun Q' E' => mb (demote δ) Q' E') X.A X.stack s1 H1 Q (fun cls dd H' => W cls dd σ H') hG hr I1.env0 (thk_ok I1 A1.env L hf fN fO (by rw [sub_out nin]; exact hco) (nob _ _ _ _ _) (fun A outer s H E h1 h2 => body A outer s H E f c2 h1 h2) hG)
    ⟨FF.ls0 ++ own, [.opq f (sub H1 (FF.ls0 ++ own))], PQ, EK, A1.env.trk, A1.tabs, .cons (.opq (Grow.refl _)) .nil, ⟨rfl, mm⟩, fun d v H' pd s2 r2 => q d v H' pd (s01.trans s2) (.cl r2), fun er cls dd H' ke s2 r2 => A1.pass er cls dd H' ke s2 r2⟩) fun r s' hq => ?_)
  match r, hq with
  | .error e, hq => exact tk e s' (XE.of_call I1 (fun cls dd H' h => h) hq)
  | .ok (.ret u), hq => exact I1.after hq
end
section
variable {P : Program} {w : World} {K : PySem.W.Frag} {mg : Str → Option Value} {base : Heap}
/-- the body of such a def -/
theorem fnT_of {x qual a : Str} {st : Stmt} {g : Addr} {fd : FuncData} {N : List Str} {kb : Nat} {m : Addr → Hp → TL → SM} (F : Fun K x qual st g fd) (S : FnScope N [a] (defScope st)) (hb : Binds K fd [a] [])
    (body : ∀ (cdv : Value) (A : Around) (outer : List Env) (s : Shared) (H : Hp) (E : XK) (f : Addr) (Hc : Hp) (tl : TL), GdOk A base → Room (kb + 1) (A.deeper (envOfC qual (defScope st) s.heap.objs.size g cdv)) → ThkOk P w K mg base kb A outer s H f Hc tl →
      DSs (cxOf (L2.CX P w) P w K mg base N qual (defScope st) g cdv A outer s H E) (Wof E) (defBody st) (m f Hc tl)) : FnT P w K mg base kb (kb + 2) g fun tl Q E => ∀ f Hc, mFun 1 N.length (m f Hc tl) [.opq f Hc] Q E := by
  obtain ⟨oc, od, kV, doc, pm, an, cdv, ct, osl, rfl, lk, hcd⟩ := F.ex
  intro f Hc tl A outer s H Q E hG hr e0 ok sp
  have KX : K.In s.heap := e0.mod.kin.keeps fun b o e => (e0.bs b o e).1
  refine LamX.run_ofS (N := N) (ps := [a]) (us := [.ref f]) (vs := [.ref f]) lk hcd S hr e0 (by have := hb s [.ref f] KX rfl; rw [List.append_nil] at this; exact this) (.cons rfl .nil) rfl fun hr2 => ?_
  obtain ⟨fo, ds, PQ, EK, ht, tb, rs, ⟨rfl, hm⟩, hq, he⟩ := sp
  obtain ⟨_, hm⟩ := hm f Hc
  exact ⟨_, body cdv A outer s H E f Hc tl hG hr2 ok, ⟨fo, H, sub H fo⟩, [], _, _, env_start ht tb rs, hm, links_end (cx := cxOf (L2.CX P w) P w K mg base N qual (defScope st) g cdv A outer s H E) hq he⟩
end
/-! ### defs whose code object is known; the end of a law that makes lambdas -/
section
variable {P : Program} {w : World} {K : PySem.W.Frag} {mg : Str → Option Value} {base : Heap}
theorem fnD_ofC {x qual : Str} {st : Stmt} {f c : Addr} {fd : FuncData} {N ps : List Str} {k : Nat} {m : SM} (F : Fun K x qual st f fd) (hcode : fd.code = .ref c) (S : FnScope N ps (defScope st)) (hb : Binds K fd ps [])
    (body : ∀ (A : Around) (outer : List Env) (s : Shared) (H : Hp) (E : XK), GdOk A base → Room k (A.deeper (envOfC qual (defScope st) s.heap.objs.size f (.ref c))) →
      DSs (cxOf (L2.CX P w) P w K mg base N qual (defScope st) f (.ref c) A outer s H E) (Wof E) (defBody st) m) : FnD P w K mg base (k + 1) f (mFun ps.length N.length m) := by
  obtain ⟨oc, od, kV, doc, pm, an, cdv, ct, osl, rfl, lk, hcd⟩ := F.ex
  obtain rfl : cdv = .ref c := hcode
  intro A outer s H us vs Q E hG hr e0 rv sp
  have KX : K.In s.heap := e0.mod.kin.keeps fun b o e => (e0.bs b o e).1
  obtain ⟨fo, ds, PQ, EK, ht, tb, rs, ⟨hl, hm⟩, hq, he⟩ := sp
  have e1 : vs.length = ps.length := by rw [rs.length]; exact hl
  refine LamX.run_ofS (N := N) (ps := ps) (us := us) (vs := vs) lk hcd S hr e0 (by have := hb s us KX (by rw [List.append_nil, ← rv.length]; exact e1); rw [List.append_nil] at this; exact this) rv e1 fun hr2 => ?_
  exact ⟨_, body A outer s H E hG hr2, ⟨fo, H, sub H fo⟩, [], _, _, env_start ht tb rs, hm, links_end (cx := cxOf (L2.CX P w) P w K mg base N qual (defScope st) f (.ref c) A outer s H E) hq he⟩
end
abbrev noTab : Obj := PySem.W.tabObj #[]
section
variable {P : Program} {w : World} {K : PySem.W.Frag} {mg mb : Str → Option Value} {k : Nat} {fa a : Addr} {m : FM} {s1 : Shared} {vs : List Value} {ns : List Int} {cs : List (Addr × Addr)}
/-- what a heap tracks where a law begins: the script, the empty tables -/
def Begin (cs : List (Addr × Addr)) (a : Addr) (H : Hp) : Prop := ∀ b, H b = none ∨ (H b = some (.tbl #[]) ∧ b ∈ cs.map (·.2)) ∨ (b = a ∧ ∃ o xs, H b = some (.frz o (.lst xs)))
theorem law_coreT (KX : K.In s1.heap) (hns : s1.heap.Ns mainGlobals mg) (hb : s1.heap.Ns builtinsNs mb) (hbb : ∀ x : Str, x ≠ "__name__" → mb x = bootBuiltins x) (hlim : s1.heap.NoLimit) (hg : s1.gens = #[]) (hSM : ∃ mm, s1.heap.Ns sysModules mm)
    (hTs : ∀ p ∈ TabsC.T, p.1 ∈ cs.map (·.2)) (empty : ∀ p ∈ cs, s1.heap.get? p.2 = some noTab) (nT : ∀ p ∈ cs, K.lookup p.2 = none) (heads : ∀ p ∈ cs, PySem.W.CodeHd s1.heap p.1 p.2)
    (hbm : ∃ (bm : Addr) (ob : Obj), mg "__builtins__" = some (.ref bm) ∧ bm ≠ builtinsNs ∧ s1.heap.get? bm = some ob ∧ ob.cls = .type "module" ∧ ob.dict = some builtinsNs ∧ ob.data = .plain)
    (ha : s1.heap.get? a = some { cls := .type "list", data := .seq vs.toArray }) (hr : Room k callerA) (F : ∀ base : Heap, K.In base → base.Ns mainGlobals mg → (∀ p ∈ cs, LamX.TabB base mg p.1 p.2) → FnD P w K mg base k fa m)
    (hm : LawTrue m) (hl : ns.length ≤ 63) (H : Hp) (hO : Begin cs a H) (hTb : ∀ b ∈ cs.map (·.2), H b = some (.tbl #[])) (hS : SqL K H a (ns.map V.int)) (hok : HOk P w H s1.heap) (hK : a ∉ cs.map (·.2) → H a ≠ none → K.lookup a = none) :
    codeAny (model P w) callerA (.call (.ref fa) ⟨[.ref a], []⟩) (fun r s' => r = .ok (.ret (.bool true)) ∧ OldK s1.heap s'.heap ∧ s'.os = s1.os ∧ AllBare s'.gens) s1 := by
  have tabAt : ∀ b, b ∈ cs.map (·.2) → s1.heap.get? b = some noTab ∧ K.lookup b = none := fun b hb => by
    obtain ⟨p, hp, e⟩ := List.mem_map.mp hb
    rw [← e]
    exact ⟨empty p hp, nT p hp⟩
  have apart : a ∉ cs.map (·.2) := fun z => by
    have q := (tabAt a z).1
    rw [ha] at q
    cases q
  -- what is neither the script nor an empty table is not tracked
  have free : ∀ {b : Addr} {o : Obj}, s1.heap.get? b = some o → (∀ ys n, o.data ≠ .seq ys n) → o.data ≠ .fields #[] → H b = none := fun {b o} e n1 n2 => by
    rcases hO b with z | ⟨_, z⟩ | ⟨z, _⟩
    · exact z
    · rw [(tabAt b z).1] at e; cases e; exact absurd rfl n2
    · rw [z, ha] at e; cases e; exact absurd rfl (n1 _ _)
  have dictK : ∀ {b : Addr} {mm : Str → Option Value}, s1.heap.Ns b mm → (hidT s1.heap H).Ns b mm := fun {b mm} hN => by
    obtain ⟨o, es, ep, e, d, r⟩ := hN
    exact ⟨o, es, ep, hidT_get e (free e (fun ys n z => by rw [d] at z; cases z) (fun z => by rw [d] at z; cases z)), d, r⟩
  have hKb : K.In (hidT s1.heap H) := fun b o e => hidT_get (KX b o e) (by
    rcases hO b with z | ⟨_, z⟩ | ⟨z, o2, xs, z2⟩
    · exact z
    · rw [(tabAt b z).2] at e; cases e
    · rw [z] at e z2
      rw [hK apart (by rw [z2]; simp)] at e; cases e)
  have tabs : ∀ p ∈ cs, LamX.TabB (hidT s1.heap H) mg p.1 p.2 := fun p hp => by
    refine ⟨?_, ?_, fun z => ?_⟩
    · obtain ⟨o, us, file, tf, flags, tg, inF, text, tt, e1, r1, r2, r3, rest⟩ := heads p hp
      refine ⟨o, us, file, tf, flags, tg, inF, text, tt, hidT_get e1 (free e1 (fun ys n z => by rw [r2] at z; cases z) fun z => ?_), r1, r2, r3, rest⟩
      rw [r2] at z
      cases z
      simp at r3
    · obtain ⟨bm, ob, b1, b2, b3, b4, b5, b6⟩ := hbm
      refine ⟨bm, ob, b1, b2, fun q => ?_, fun q => ?_, hidT_get b3 (free b3 (fun ys n z => by rw [b6] at z; cases z) fun z => by rw [b6] at z; cases z), b4, b5, b6⟩
      · obtain ⟨o, es, ep, e, hd, _⟩ := hns
        rw [q, e] at b3
        cases b3
        rw [hd] at b6
        cases b6
      · rw [q, empty p hp] at b3
        cases b3
        cases b6
    · obtain ⟨o, es, ep, e, hd, _⟩ := hns
      rw [z, empty p hp] at e
      cases e
      cases hd
  obtain ⟨mc, l1, l2⟩ := hlim
  have env : Env0 P w K mg (hidT s1.heap H) callerA [] s1 H :=
    ⟨rfl, ⟨hKb, dictK hns, ⟨mb, dictK hb, hbb⟩, mc, dictK l1, l2⟩, fun b o e => of_hidT e, Nat.le_of_eq (hidT_size _ _), trivial, fun b hb => absurd hb (by simp [frs]), hok, .of_eq hg⟩
  have sp : spD K m [.ref a] H (fun v _ => v = .bl true) (fun _ _ _ => False) :=
    ⟨[], [.script ns], _, NoE, fun l h => absurd h (by simp), fun p hp => LamX.TabS.nil (hTb _ (hTs p hp)), .cons (.script (by rw [show sub H [] = H from funext fun b => if_neg (by simp)]; exact hS) (Nat.le_trans hl (by rw [sizeLine_eq]; decide))) .nil, hm ns hl, fun d v H' e _ r => by
      subst e
      cases r
      rfl, fun _ _ _ _ e => e.elim⟩
  refine codeAny_mono ((F _ hKb (dictK hns) tabs) callerA [] s1 H [.ref a] [.ref a] _ _ ⟨rfl, let ⟨mm, hm⟩ := hSM; ⟨mm, dictK hm⟩⟩ hr env (.cons rfl .nil) sp) fun r s' h => ?_
  match r, h with
  | .error e, h =>
    obtain ⟨_, _, _, _, _, _, _, _, _, _, _, _, z⟩ := h
    exact z.elim
  | .ok (.ret u), h =>
    obtain ⟨v, H', hos, hbare, hun, hok', hrel, hv⟩ := h
    have ev : v = .bl true := hv
    rw [ev] at hrel
    have eu : u = Value.bool true := hrel
    rw [eu]
    have same : ∀ b o, b ∉ cs.map (·.2) → s1.heap.get? b = some o → s'.heap.get? b = some o := fun b o nb e => by
      rcases hO b with z | ⟨_, z⟩ | ⟨_, ob, xs, z⟩
      · exact hun.keep b o e z (by simp [frs]) (by simp)
      · exact absurd z nb
      · have g1 := (hok b _ z).1
        have g2 := (hok' b _ (hun.frzs b ob _ z)).1
        rw [e] at g1
        cases g1
        exact g2
    have grown : ∀ b, b ∈ cs.map (·.2) → ∃ more : Array Value, s'.heap.get? b = some (PySem.W.tabObj more) := fun b hb => by
      obtain ⟨more, z⟩ := hun.tbls b #[] (hTb b hb)
      exact ⟨_, hok' b _ z⟩
    refine ⟨rfl, ⟨fun b o e => ?_, fun b o e => ?_⟩, hos, hbare⟩
    · by_cases hb : b ∈ cs.map (·.2)
      · obtain ⟨p, hp, ep⟩ := List.mem_map.mp hb
        obtain ⟨more, g⟩ := grown b hb
        rw [(tabAt b hb).1] at e
        cases e
        exact .inr (.inl ⟨by rw [← ep]; exact ((heads p hp).tab (empty p hp)).isCodeTable, rfl, #[], more, rfl, by rw [Array.empty_append]; exact g⟩)
      · exact .inl (same b o hb e)
    · by_cases hb : b ∈ cs.map (·.2)
      · obtain ⟨more, g⟩ := grown b hb
        exact ⟨_, g⟩
      · exact ⟨o, same b o hb e⟩
theorem law_callT (KX : K.In s1.heap) (hns : s1.heap.Ns mainGlobals mg) (hb : s1.heap.Ns builtinsNs mb) (hbb : ∀ x : Str, x ≠ "__name__" → mb x = bootBuiltins x) (hlim : s1.heap.NoLimit) (hg : s1.gens = #[]) (hSM : ∃ mm, s1.heap.Ns sysModules mm)
    (hTs : ∀ p ∈ TabsC.T, p.1 ∈ cs.map (·.2)) (empty : ∀ p ∈ cs, s1.heap.get? p.2 = some noTab) (nT : ∀ p ∈ cs, K.lookup p.2 = none) (heads : ∀ p ∈ cs, PySem.W.CodeHd s1.heap p.1 p.2)
    (hbm : ∃ (bm : Addr) (ob : Obj), mg "__builtins__" = some (.ref bm) ∧ bm ≠ builtinsNs ∧ s1.heap.get? bm = some ob ∧ ob.cls = .type "module" ∧ ob.dict = some builtinsNs ∧ ob.data = .plain)
    (ha : s1.heap.get? a = some { cls := .type "list", data := .seq vs.toArray }) (hi : IntsAre vs ns) (hr : Room k callerA) (F : ∀ base : Heap, K.In base → base.Ns mainGlobals mg → (∀ p ∈ cs, LamX.TabB base mg p.1 p.2) → FnD P w K mg base k fa m)
    (hm : LawTrue m) (hl : ns.length ≤ 63) :
    codeAny (model P w) callerA (.call (.ref fa) ⟨[.ref a], []⟩) (fun r s' => r = .ok (.ret (.bool true)) ∧ OldK s1.heap s'.heap ∧ s'.os = s1.os ∧ AllBare s'.gens) s1 := by
  have hz : ns.length ≤ sizeLine := Nat.le_trans hl (by rw [sizeLine_eq]; decide)
  have there : ∀ b, b ∈ cs.map (·.2) → s1.heap.get? b = some noTab := fun b hb => by
    obtain ⟨p, hp, e⟩ := List.mem_map.mp hb
    rw [← e]; exact empty p hp
  have apart : a ∉ cs.map (·.2) := fun z => by
    have q := there a z
    rw [ha] at q; cases q
  let tabs : Hp := fun b => if b ∈ cs.map (·.2) then some (.tbl #[]) else none
  have tIn : ∀ {b : Addr}, b ∈ cs.map (·.2) → tabs b = some (.tbl #[]) := fun h => if_pos h
  have tOut : ∀ {b : Addr}, b ∉ cs.map (·.2) → tabs b = none := fun h => if_neg h
  have tCase : ∀ b, tabs b = none ∨ (tabs b = some (.tbl #[]) ∧ b ∈ cs.map (·.2)) := fun b => by
    by_cases e : b ∈ cs.map (·.2)
    · exact .inr ⟨tIn e, e⟩
    · exact .inl (tOut e)
  cases hk : K.lookup a with
  | some o =>
    have e := KX a o hk
    rw [ha] at e
    cases e
    refine law_coreT KX hns hb hbb hlim hg hSM hTs empty nT heads hbm ha hr F hm hl tabs (fun b => (tCase b).imp id .inl) (fun b => tIn) (.inr ⟨_, vs.toArray, _, hk, rfl, rfl, rfl, (by rw [List.size_toArray, hi.length]; exact hz), by simpa using vals_of_ints hi⟩) (fun b u z => ?_) fun n z => absurd (tOut n) z
    rcases tCase b with q | ⟨q, hb⟩
    · rw [q] at z; cases z
    · rw [q] at z; cases z; exact there b hb
  | none =>
    let HH : Hp := fun b => if b = a then some (HO.frz { cls := .type "list", data := .seq vs.toArray } (.lst (ns.map V.int))) else tabs b
    have atA : HH a = some (HO.frz { cls := .type "list", data := .seq vs.toArray } (.lst (ns.map V.int))) := if_pos rfl
    have off : ∀ {b : Addr}, b ≠ a → HH b = tabs b := fun h => if_neg h
    refine law_coreT KX hns hb hbb hlim hg hSM hTs empty nT heads hbm ha hr F hm hl HH (fun b => ?_) (fun b hb => by rw [off fun z => apart (z ▸ hb)]; exact tIn hb) (.inl (.inr ⟨_, atA⟩)) (fun b u z => ?_) fun _ _ => hk
    · by_cases e : b = a
      · exact .inr (.inr ⟨e, _, _, by rw [e]; exact atA⟩)
      · rw [off e]; exact (tCase b).imp id .inl
    · by_cases e : b = a
      · rw [e, atA] at z
        cases z
        rw [e]
        exact ⟨ha, (by rw [List.length_map]; exact hz), vs, _, vals_of_ints hi, ha⟩
      · rw [off e] at z
        rcases tCase b with q | ⟨q, hb⟩
        · rw [q] at z; cases z
        · rw [q] at z; cases z; exact there b hb
end
/-- what is known of a def that makes lambdas: its code object, the table -/
structure LamAt (K : PySem.W.Frag) (mg : Str → Option Value) (q : Program) (d : Str) (fc : Addr) (c P : Addr) : Prop where
  g : mg d = some (.ref fc)
  top : ((recsOf q).any fun e => e.name == d) = true
  fn : ∃ o fd, K.lookup fc = some o ∧ o.data = .func fd ∧ fd.code = .ref c
  cd : ∃ e dd vs sl, K.lookup c = some ⟨e, dd, .fields vs, sl⟩ ∧ vs[11]? = some (.ref P)
  no : K.lookup P = none
end DL
namespace DL
theorem tabs_u {T : List (PySem.Addr × PySem.Str)} (nd : (T.map (·.1)).Nodup) {p : PySem.Addr × PySem.Str} (hm : p ∈ T) : ∀ r ∈ T, r.1 = p.1 → r.2 = p.2 := by
  intro r hr e
  induction T with
  | nil => cases hm
  | cons x xs ih =>
    rw [List.map_cons, List.nodup_cons] at nd
    rcases List.mem_cons.mp hm with rfl | hm' <;> rcases List.mem_cons.mp hr with rfl | hr'
    · rfl
    · exact absurd (List.mem_map.mpr ⟨r, hr', e⟩) nd.1
    · exact absurd (List.mem_map.mpr ⟨p, hm', e.symm⟩) nd.1
    · exact ih nd.2 hm' hr'
theorem e_dm0 : demote [] = [] := rfl
theorem e_dmv (d : D) (r : List DV) : demote (.v d :: r) = .v d :: demote r := rfl
theorem e_dmu (r : List DV) : demote (.u :: r) = .u :: demote r := rfl
theorem e_dmm (d : D) (r : List DV) : demote (.m d :: r) = .u :: demote r := rfl
theorem e_dms (d : D) (r : List DV) : demote (.s d :: r) = .u :: demote r := rfl
end DL
set_option Elab.async false
set_option linter.all false
set_option maxRecDepth 100000
set_option maxHeartbeats 4000000
/-! DL44: xs[i] = e of a list of one's own; a def by its name; calls of a name that holds a def. -/
namespace DL
open PySem PySem.Spec PyProof.Rows L2
variable [TabsC]
theorem Reps.set {K : PySem.W.Frag} {H : Hp} {v : V} {d : D} (h : Rep K H v d) : ∀ {vs : List V} {ds : List D} (j : Nat), Reps K H vs ds → Reps K H (vs.set j v) (ds.set j d)
  | _, _, _, .nil => .nil
  | _, _, 0, .cons _ t => .cons h t
  | _, _, j + 1, .cons r t => .cons r (Reps.set h j t)
section
variable {X : Cx} {W : WX} {a b c e e2 o : Expr} {es : List Expr} {ba bb : Bool} {ma mb mc mk : TM} {la : LM} {pos p p2 pos2 : Pos} {x y : Str} {k : Nat}
def sPutL (i : Nat) (mk mv : TM) : SM := fun δ κ => mv δ (fun v => ∃ ds, δ[i]? = some (.m (.list ds)) ∧ mk δ (fun kd => ∃ (z : Int) (j : Nat), kd = .int z ∧ ixN ds.length z = some j ∧ κ.nx (δ.set i (.m (.list (ds.set j v))))) (κ.er δ)) (κ.er δ)
theorem ds_putL (i : Nat) {ie : Expr} {p1 : Pos} (ho : PE X (.Name x p) (tVar i)) (hi : DE X W ie bb mk) (hv : DE X W e false ma) (hs : swapsWithSole [.Subscript (.Name x p) ie p1] e pos.line X.env = pure false := by rfl) (hw : swappedStores [.Subscript (.Name x p) ie p1] e X.env = pure none := by rfl)
    (h1 : (assignEach [.Subscript (.Name x p) ie p1] X.env).map (·.2) = [assign (.Subscript (.Name x p) ie p1) X.env] := by rfl)
    (ha : ∀ v, assign (.Subscript (.Name x p) ie p1) X.env v = (do
      let ov ← holding [v] (eval (.Name x p) X.env)
      let iv ← holding [v, ov] (eval ie X.env)
      standAt p1
      holding [v, ov, iv] (setItem ov iv v)
      release [v, ov, iv] []) := by intro _; rfl) :
    DS X W (.Assign [.Subscript (.Name x p) ie p1] e pos) (sPutL i mk ma) :=
  PS.imp (ps_asg hv (pg_sub ho hi set_list ha) hs hw h1) fun D σ H ⟨F, own, δ, κ, E, h, L⟩ => by
    refine ⟨F, own, δ, _, _, L.at E, h, fun d v H1 ⟨ds, hd, m1⟩ s1 r1 => ?_⟩
    have E1 := E.grow s1
    obtain ⟨a, xs, e1, ha, h1, h2, h3⟩ := mut_list E1 hd
    refine ⟨_, e1, F, own, δ, _, _, (L.at E).on s1, m1, fun kd kv H2 ⟨z, j, ek, hj, m2⟩ s2 r2 => ?_⟩
    subst ek
    have ekv := r2.isInt
    subst ekv
    have h1' := s2 _ _ h1
    refine ⟨a, xs, z, j, rfl, rfl, h1', by rw [h3.length]; exact hj, L.nx _ _ own _ ((E1.grow s2).put hd e1 h1' (.ml (E.sep a ha) upd_same (by rw [List.length_set]; exact h2) ?_)) m2⟩
    rw [sub_upd (List.mem_append_right _ ha)]
    exact (h3.mono (sub_same s2)).set (r1.clean.mono (sub_same s2)) j
/-! ### a name that holds a def -/
def mCallFn (i : Nat) (fs : List (Str × FM)) (la : LM) : TM := fun δ Q E => ∃ n m, δ[i]? = some (.v (.fn n)) ∧ (n, m) ∈ fs ∧ la δ (fun ds => m ds Q E) E
theorem de_callFn (i : Nat) {fs : List (Str × FM)} (hF : ∀ q, q ∈ fs → ∃ f, PySem.W.nsIn X.K mainGlobals q.1 = some (some (.ref f)) ∧ PySem.W.keepIn X.K (.ref f) = true ∧ FnD X.prog X.w X.K X.mg X.base k f q.2) (hG : GdOk X.A X.base) (hr : Room k X.A) (tk : Takes X W) (hv : PE X (.Name x p) (tVar i))
    (ha : DA X W (e :: es) false la) (he : starEach (e :: es) X.env = (false, eval e X.env) :: starEach es X.env := by rfl) (hpl : (backTo pos (starEach es X.env)).any (·.1) = false := by rfl) : DE X W (.Call (.Name x p) (e :: es) [] pos) false (mCallFn i fs la) := by
  refine ⟨fun pins s σ H Q I ⟨FF, own, δ, P, EK, A, ⟨n, m, hd, hin, mm⟩, q⟩ => ?_⟩
  obtain ⟨f, hn, hk, F⟩ := hF _ hin
  obtain ⟨sv, at_i, v, rfl, rv⟩ := A.env.slot i _ hd
  cases rv with
  | fn hn2 =>
  rw [hn] at hn2
  cases hn2
  refine wpAny_Call_Name_kw (thn (hv.run pins s σ H (fun v H1 => v = .ref f ∧ H1 = H) I ⟨.ref f, at_i, rfl, rfl⟩) fun u s0 ⟨v, H0, I0, rel, ev, eH⟩ => ?_)
  subst ev eH
  obtain rfl : u = Value.ref f := rel
  refine PySem.W.callWith_K (h₀ := X.base) I0.ok.mod.kin hk (thn (ha.run pos pins s0 σ H0 (fun vs H1 => ∃ ds, m ds P EK ∧ Same H0 H1 ∧ RVs X.K FF.ls0 (FF.ls0 ++ own) H1 false vs ds) I0
    ⟨FF, own, δ, _, EK, A, mm, fun ds vs H1 p1 s1 r1 => ⟨ds, p1, s1, r1⟩⟩) fun us s1 ⟨vs, H1, I1, rv, ds, hm1, s01, rr⟩ => ⟨I1.kIn, ?_⟩) he hpl
  have A1 := A.on s01
  exact runP F hG hr tk (E := fun cls dd H' => W cls dd σ H') (fun _ _ _ h => h) I1 rv ⟨FF.ls0 ++ own, ds, P, EK, A1.env.trk, A1.tabs, rr.clean, hm1, fun d v H' pd s2 r2 => q d v H' pd (s01.trans s2) (.cl r2), fun er cls dd H' ke s2 r2 => A1.pass er cls dd H' ke s2 r2⟩
end
theorem ix_last {α : Type} (l : List α) (x : α) : ixN (l ++ [x]).length (-1) = some l.length := by
  unfold ixN
  rw [List.length_append, List.length_singleton]
  rw [if_neg (by omega)]
  simp
  constructor <;> omega
end DL
set_option Elab.async false
set_option linter.all false
set_option maxRecDepth 100000
set_option maxHeartbeats 4000000
/-! DL45: try: call() / except A: return 'a' / except B as e: return 'b ' + repr(e.f): what it says, told once. -/
namespace DL
open PySem PySem.Spec PyProof.Rows L2
variable [TabsC]
/-- the clauses: the class, the word, the field that is shown behind it -/
def metG (isa : Str → Str → Bool) (Q : D → Prop) (E : Er → Prop) (er : Er) : List (Str × Str × Option Str) → Prop
  | [] => E er
  | (c, t, none) :: r => if isa er.cls c = true then Q (.str t) else metG isa Q E er r
  | (c, t, some f) :: r => if isa er.cls c = true then (∃ g d, er.arg = some (g, d) ∧ ∀ a dd : Addr, ∃ nm d2, D.exc a dd er.cls g d = .exc a dd nm f d2 ∧ fRepr [d2] fun y => fAdd (.str t) y fun d => Q d) else metG isa Q E er r
theorem metG_plain {isa : Str → Str → Bool} {Q : D → Prop} {E : Er → Prop} {er : Er} {c t : Str} : ∀ {hs : List (Str × Str × Option Str)}, (hs.find? fun h => isa er.cls h.1) = some (c, t, none) → Q (.str t) → metG isa Q E er hs
  | [], h, _ => by cases h
  | (c1, t1, o1) :: r, h, q => by
    rw [List.find?_cons] at h
    cases hi : isa er.cls c1 with
    | true =>
      rw [hi] at h
      cases h
      show if isa er.cls c = true then _ else _
      rw [if_pos hi]
      exact q
    | false =>
      rw [hi] at h
      have ih := metG_plain (E := E) h q
      cases o1 with
      | none => show if isa er.cls c1 = true then _ else _; rw [if_neg (by rw [hi]; decide)]; exact ih
      | some f => show if isa er.cls c1 = true then _ else _; rw [if_neg (by rw [hi]; decide)]; exact ih
theorem all_of {xs : List D} {p : D → Bool} (h : xs.all p = true) : ∀ x, x ∈ xs → p x = true := fun x hx => List.all_eq_true.mp h x hx
theorem e_dmc (x : DV) (r : List DV) : demote (x :: r) = (match x with | .v d => .v d | _ => .u) :: demote r := rfl
end DL
namespace DL
open PySem PySem.Spec PyProof.Rows L2
end DL
set_option Elab.async false
set_option linter.all false
set_option maxRecDepth 100000
set_option maxHeartbeats 4000000
/-! DL46: f(a, .., k = b); a tuple times a number. -/
namespace DL
open PySem PySem.Spec PyProof.Rows L2
variable [TabsC]
/-- a def called with its last parameters by name -/
def FnK (P : Program) (w : World) (K : PySem.W.Frag) (mg : Str → Option Value) (base : Heap) (k : Nat) (f : Addr) (n : Nat) (ks : List Str) (m : FM) : Prop :=
  ∀ (A : Around) (outer : List Env) (s : Shared) (H : Hp) (us ws : List Value) (vs zs : List V) (Q : VK) (E : XK), GdOk A base → Room k A → Env0 P w K mg base A outer s H → Vals vs us → Vals zs ws → vs.length = n → zs.length = ks.length → spD K m (vs ++ zs) H Q E →
    codeAny (model P w) A (.call (.ref f) ⟨us, ks.zip ws⟩) (CR (L2.CX P w) outer P w H s Q E) s
theorem FnK.imp {P : Program} {w : World} {K : PySem.W.Frag} {mg : Str → Option Value} {base : Heap} {k n : Nat} {ks : List Str} {f : Addr} {m m' : FM} (F : FnK P w K mg base k f n ks m) (h : ∀ ds Q E, m' ds Q E → m ds Q E) : FnK P w K mg base k f n ks m' :=
  fun A outer s H us ws vs zs Q E hG hr e r rz l1 l2 ⟨fo, ds, P, EK, t, tb, rs, m, q⟩ => F A outer s H us ws vs zs Q E hG hr e r rz l1 l2 ⟨fo, ds, P, EK, t, tb, rs, h _ _ _ m, q⟩
section
variable {P : Program} {w : World} {K : PySem.W.Frag} {mg : Str → Option Value} {base : Heap}
theorem fnK_of {x qual : Str} {st : Stmt} {f : Addr} {fd : FuncData} {N ps ks : List Str} {k n : Nat} {m : SM} (F : Fun K x qual st f fd) (S : FnScope N ps (defScope st))
    (hb : ∀ (s : Shared) (us ws : List Value), us.length = n → ws.length = ks.length → BindsTo s fd ⟨us, ks.zip ws⟩ (ps.zip (us ++ ws))) (hn : n + ks.length = ps.length)
    (body : ∀ (cdv : Value) (A : Around) (outer : List Env) (s : Shared) (H : Hp) (E : XK), GdOk A base → Room k (A.deeper (envOfC qual (defScope st) s.heap.objs.size f cdv)) →
      DSs (cxOf (L2.CX P w) P w K mg base N qual (defScope st) f cdv A outer s H E) (Wof E) (defBody st) m) : FnK P w K mg base (k + 1) f n ks (mFun ps.length N.length m) := by
  obtain ⟨oc, od, kV, doc, pm, an, cdv, ct, osl, rfl, lk, hcd⟩ := F.ex
  intro A outer s H us ws vs zs Q E hG hr e0 rv rz l1 l2 sp
  obtain ⟨fo, ds, PQ, EK, ht, tb, rs, ⟨hl, hm⟩, hq, he⟩ := sp
  refine LamX.run_ofS (N := N) (ps := ps) (us := us ++ ws) (vs := vs ++ zs) lk hcd S hr e0 (hb s us ws (rv.length.symm.trans l1) (rz.length.symm.trans l2)) (rv.append rz) (by rw [List.length_append, l1, l2, hn]) fun hr2 => ?_
  exact ⟨_, body cdv A outer s H E hG hr2, ⟨fo, H, sub H fo⟩, [], _, _, env_start ht tb rs, hm, links_end (cx := cxOf (L2.CX P w) P w K mg base N qual (defScope st) f cdv A outer s H E) hq he⟩
end
section
variable {X : Cx} {W : WX} {a b c e o : Expr} {es : List Expr} {kws : List Keyword} {ba bb : Bool} {ma mb mc : TM} {la lk : LM} {p pos kpos : Pos} {x : Str} {k n : Nat} {f : Addr} {m : FM} {ks : List Str} {nm : Option Str}
def DK (X : Cx) (W : WX) (kws : List Keyword) (m : LM) : Prop := PK X kws (tal X.K W false m)
theorem PK.imp {X : Cx} {kws : List Keyword} {t t' : TA} (h : PK X kws t) (g : ∀ σ H Q, t' σ H Q → t σ H Q) : PK X kws t' := ⟨fun pos pins s σ H Q I q => h.run pos pins s σ H Q I (g _ _ _ q)⟩
theorem dk_nil : DK X W [] mNil := PK.imp pk_nil fun σ H Q ⟨F, own, δ, P, EK, A, m, q⟩ => q [] [] H m (Same.refl H) .nil
theorem dk_cons (ha : DE X W e false ma) (hr : DK X W kws la) : DK X W (⟨nm, e, kpos⟩ :: kws) (mCons ma la) :=
  PK.imp (pk_cons ha hr) fun σ H Q ⟨F, own, δ, P, EK, A, m, q⟩ => ⟨F, own, δ, _, EK, A, m, fun d v H1 m1 s1 r1 =>
    ⟨F, own, δ, _, EK, A.on s1, m1, fun ds vs H2 m2 s2 r2 => q _ _ H2 m2 (s1.trans s2) (.cons (r1.mono s2) r2)⟩⟩
def mCallK (m : FM) (n l : Nat) (la lk : LM) : TM := fun δ Q E => la δ (fun ds => lk δ (fun es => ds.length = n ∧ es.length = l ∧ m (ds ++ es) Q E) E) E
theorem de_callK (F : FnK X.prog X.w X.K X.mg X.base k f n ks m) (hG : GdOk X.A X.base) (hr : Room k X.A) (tk : Takes X W) (hg : Gl X x) (hm : X.mg x = some (.ref f)) (hk : PySem.W.keepIn X.K (.ref f) = true)
    (ha : DA X W (e :: es) false la) (hkw : DK X W kws lk) (hall : (backToKw pos (keywordEach kws X.env)).all (·.1.isSome) = true := by rfl) (hks : (backToKw pos (keywordEach kws X.env)).filterMap (·.1) = ks := by rfl)
    (hdb : (x == ("__debug__" : Str)) = false := by decide) (he : starEach (e :: es) X.env = (false, eval e X.env) :: starEach es X.env := by rfl)
    (hpl : ((backTo pos (starEach (e :: es) X.env)).any (·.1) || (backToKw pos (keywordEach kws X.env)).any (·.1.isNone)) = false := by rfl) : DE X W (.Call (.Name x p) (e :: es) kws pos) false (mCallK m n ks.length la lk) := by
  refine ⟨fun pins s σ H Q I ⟨FF, own, δ, P, EK, A, mm, q⟩ => ?_⟩
  refine wpAny_Call_Name_kw (ld_glob I hg hm ?_ hdb)
  refine PySem.W.callWith_KW (h₀ := X.base) I.ok.mod.kin hk hall (thn (ha.run pos pins s σ H (fun vs H1 => ∃ ds, lk δ (fun es => ds.length = n ∧ es.length = ks.length ∧ m (ds ++ es) P EK) EK ∧ Same H H1 ∧ RVs X.K FF.ls0 (FF.ls0 ++ own) H1 false vs ds) I
    ⟨FF, own, δ, _, EK, A, mm, fun ds vs H1 p1 s1 r1 => ⟨ds, p1, s1, r1⟩⟩) fun us s1 ⟨vs, H1, I1, rv, ds, hm1, s01, rr⟩ => ?_) hpl he
  refine thn (hkw.run pos pins s1 σ H1 (fun zs H2 => ∃ es, ds.length = n ∧ es.length = ks.length ∧ m (ds ++ es) P EK ∧ Same H1 H2 ∧ RVs X.K FF.ls0 (FF.ls0 ++ own) H2 false zs es) I1
    ⟨FF, own, δ, _, EK, A.on s01, hm1, fun es zs H2 ⟨l1, l2, p2⟩ s2 r2 => ⟨es, l1, l2, p2, s2, r2⟩⟩) fun ws s2 ⟨zs, H2, I2, rz, es, l1, l2, hm2, s12, rz2⟩ => ⟨I2.kIn, ?_⟩
  rw [hks]
  have A2 := A.on (s01.trans s12)
  have cl := (rr.mono s12).clean
  refine wpAny_call (codeAny_mono (F X.A X.stack s2 H2 us ws vs zs Q (fun cls dd H' => W cls dd σ H') hG hr I2.env0 rv rz (by rw [rr.length]; exact l1) (by rw [rz2.length]; exact l2)
    ⟨FF.ls0 ++ own, ds ++ es, P, EK, A2.env.trk, A2.tabs, cl.append rz2.clean, hm2, fun d v H' pd s3 r3 => q d v H' pd ((s01.trans s12).trans s3) (.cl r3), fun er cls dd H' ke s3 r3 => A2.pass er cls dd H' ke s3 r3⟩) fun r s' hq => ?_)
  match r, hq with
  | .error e, hq => exact tk e s' (XE.of_call I2 (fun cls dd H' h => h) hq)
  | .ok (.ret u), hq => exact I2.after hq
/-- a tuple times a number -/
def mRepT (ma mb : TM) : TM := fun δ Q E => ma δ (fun x => mb δ (fun y => ∃ ds k, x = .tup ds ∧ y = .int k ∧ ds ≠ [] ∧ 2 ≤ k ∧ k ≤ 1000 ∧ ds.length ≤ 1000 ∧ Q (.tup (List.replicate k.toNat ds).flatten)) E) E
end
end DL
set_option Elab.async false
set_option linter.all false
set_option maxRecDepth 100000
set_option maxHeartbeats 4000000
/-! DL47: range(i, j, -1). -/
namespace DL
open PySem PySem.Spec PyProof.Rows L2
variable [TabsC]
def downD (hi : Int) (n : Nat) : List D := (List.range n).map fun k : Nat => D.int (hi - k)
section
variable {X : Cx} {W : WX} {a b c : Expr} {ba : Bool} {la : LM} {pos p : Pos}
def mRange3 (la : LM) : LM := fun δ P E => la δ (fun ds => ∃ i j : Int, ds = [.int i, .int j, .int (-1)] ∧ -(2 ^ 61) ≤ i ∧ i < 2 ^ 61 ∧ -(2 ^ 61) ≤ j ∧ j < 2 ^ 61 ∧ (i - j).toNat ≤ sizeLine ∧ P (downD i (i - j).toNat)) E
end
end DL
set_option Elab.async false
set_option linter.all false
set_option maxRecDepth 100000
set_option maxHeartbeats 4000000
/-! DL48: plain facts: runs of rooms, lots, levels. -/
namespace DL
open PySem PySem.Spec PyProof.Rows L2
variable [TabsC]
def lotD (L : Tab) : D := .obj "Lot" [("own_counts", .dict (tabD L))]
abbrev Runs := List (Int × Int)
def rowD (L : Runs) : D := .obj "Row" [("own_runs", .tup (L.map pairD))]
def storeD (L : Runs) : D := .obj "Store" [("own_runs", .tup (L.map pairD))]
def mstep (acc : Runs) (p : Int × Int) : Runs := match acc.getLast? with
  | some q => if q.1 = p.1 then acc.dropLast ++ [(p.1, q.2 + p.2)] else acc ++ [p]
  | none => acc ++ [p]
def mergeT (L : Runs) : Runs := L.foldl mstep []
theorem mergeT_snoc (L : Runs) (p : Int × Int) : mergeT (L ++ [p]) = mstep (mergeT L) p := by unfold mergeT; rw [List.foldl_append] <;> rfl
theorem mstep_end (acc : Runs) (q p : Int × Int) : mstep (acc ++ [q]) p = if q.1 = p.1 then acc ++ [(p.1, q.2 + p.2)] else acc ++ [q] ++ [p] := by
  unfold mstep
  rw [List.getLast?_append]
  simp
theorem mstep_len (acc : Runs) (p : Int × Int) : (mstep acc p).length ≤ acc.length + 1 := by
  rcases List.eq_nil_or_concat acc with rfl | ⟨l, q, rfl⟩
  · simp [mstep]
  · rw [List.concat_eq_append, mstep_end]
    split <;> simp
theorem mergeT_len (L : Runs) : (mergeT L).length ≤ L.length := by
  have : ∀ (n : Nat), (mergeT (L.take n)).length ≤ n := fun n => by
    induction n with
    | zero => simp [mergeT]
    | succ n ih =>
      by_cases h : n < L.length
      · rw [List.take_succ_eq_append_getElem h, mergeT_snoc]
        have := mstep_len (mergeT (L.take n)) L[n]
        omega
      · rw [List.take_of_length_le (by omega)] at ih ⊢
        omega
  have := this L.length
  rwa [List.take_length] at this
theorem fineR (L : Runs) : fineN 2 (.list (L.map pairD)) := fineN_list fun d hd => by
  obtain ⟨p, hp, rfl⟩ := List.mem_map.mp hd
  exact fineP p
theorem pairD_inj {p q : Int × Int} (e : pairD p = pairD q) : p = q := by
  unfold pairD at e
  injection e with e
  injection e with e1 e2
  injection e1 with e1
  injection e2 with e2 _
  injection e2 with e2
  exact Prod.ext e1 e2
theorem runs_inj : ∀ {L M : Runs}, L.map pairD = M.map pairD → L = M
  | [], [], _ => rfl
  | [], _ :: _, e => by cases e
  | _ :: _, [], e => by cases e
  | p :: L, q :: M, e => by
    rw [List.map_cons, List.map_cons] at e
    injection e with e1 e2
    rw [pairD_inj e1, runs_inj e2]
def spaceT (L : Runs) (s : Int) : Int := (L.map fun p => p.2 * (p.1 / s)).sum
/-- units of a lot at a size -/
def unitsT (L : Tab) (s : Int) : Int := ((L.filter fun p => decide (p.1 ≥ s)).map fun p => p.1 * p.2).sum / s
def bndL (L : Tab) : Prop := (keysT L).Nodup ∧ L.length ≤ 12 ∧ ∀ p, p ∈ L → (1 ≤ p.1 ∧ p.1 < 10 ^ 50) ∧ (1 ≤ p.2 ∧ p.2 < 10 ^ 120)
theorem div_le' {a s : Int} (ha : 0 ≤ a) (hs : 1 ≤ s) : 0 ≤ a / s ∧ a / s ≤ a := ⟨Int.ediv_nonneg ha (by omega), Int.ediv_le_self s ha⟩
theorem keys_len (L : Tab) : (keysT L).length = L.length := by unfold keysT; rw [List.length_map]
theorem sum_le {α : Type} {f : α → Int} {B : Int} (hB : 0 ≤ B) : ∀ {l : List α}, (∀ x, x ∈ l → 0 ≤ f x ∧ f x ≤ B) → 0 ≤ (l.map f).sum ∧ (l.map f).sum ≤ B * l.length
  | [], _ => by simp
  | x :: r, h => by
    have ih := sum_le hB fun y hy => h y (List.mem_cons_of_mem _ hy)
    have hx := h x List.mem_cons_self
    have e : B * ((x :: r).length : Int) = B * r.length + B := by rw [List.length_cons, Int.natCast_succ, Int.mul_add, Int.mul_one]
    rw [List.map_cons, List.sum_cons, e]
    omega
theorem bndL.units {L : Tab} (h : bndL L) {s : Int} (hs : 1 ≤ s) : 0 ≤ unitsT L s ∧ unitsT L s ≤ 10 ^ 172 := by
  have b : (10 : Int) ^ 50 * 10 ^ 120 * 12 ≤ 10 ^ 172 := by decide +kernel
  have := sum_le (f := fun p : Int × Int => p.1 * p.2) (B := 10 ^ 50 * 10 ^ 120) (by decide +kernel) (l := L.filter fun p => decide (p.1 ≥ s)) fun p hp => by
    have hb := h.2.2 p (List.mem_filter.mp hp).1
    exact ⟨Int.mul_nonneg (by omega) (by omega), Int.mul_le_mul (by omega) (by omega) (by omega) (by decide +kernel)⟩
  have l := List.length_filter_le (fun p : Int × Int => decide (p.1 ≥ s)) L
  have c : (10 : Int) ^ 50 * 10 ^ 120 * ((L.filter fun p => decide (p.1 ≥ s)).length : Int) ≤ 10 ^ 50 * 10 ^ 120 * 12 := Int.mul_le_mul_of_nonneg_left (by have := h.2.1; omega) (by decide +kernel)
  have d := div_le' (a := ((L.filter fun p => decide (p.1 ≥ s)).map fun p => p.1 * p.2).sum) (s := s) this.1 hs
  unfold unitsT
  omega
end DL
set_option Elab.async false
set_option linter.all false
set_option maxRecDepth 100000
set_option maxHeartbeats 4000000
/-! DL49: a, b, .. = a list. -/
namespace DL
open PySem PySem.Spec PyProof.Rows L2
variable [TabsC]
section
variable {X : Cx} {es : List Expr} {pos : Pos}
def gL (n : Nat) (gs : GMs) : GM := fun d δ P => ∃ ds, d = .list ds ∧ ds.length = n ∧ gs ds δ P
end
end DL
set_option Elab.async false
set_option linter.all false
set_option maxRecDepth 100000
set_option maxHeartbeats 4000000
/-! DL50: things of a chain fit into rooms just if no size bars them: the plain law. -/
namespace DL
open PySem PySem.Spec PyProof.Rows L2
end DL
set_option Elab.async false
set_option linter.all false
set_option maxRecDepth 100000
set_option maxHeartbeats 4000000
/-! DL51: plain facts: stores of wide numbers, further rooms. -/
namespace DL
open PySem PySem.Spec PyProof.Rows L2
end DL
set_option Elab.async false
set_option linter.all false
set_option maxRecDepth 100000
set_option maxHeartbeats 4000000
/-! DL52: dicts with tuples as keys. -/
namespace DL
open PySem PySem.Spec PyProof.Rows L2
variable [TabsC]
section
variable {X : Cx} {W : WX} {a b c e e2 o : Expr} {es : List Expr} {ba bb : Bool} {ma mb mc mt : TM} {la : LM} {pos p p2 pos2 : Pos} {x y : Str} {k : Nat}
/-! ### d[tuple(e)] = v -/
def putTD (kvs : List (List Key × D)) (k : List Key) (v : D) : List (List Key × D) := if (kvs.any fun kv => decide (kv.1 = k)) = true then kvs.map (fun kv => if kv.1 = k then (kv.1, v) else kv) else kvs ++ [(k, v)]
theorem tkeys_any {α β : Type} {k : List Key} : ∀ {l : List (List Key × α)} {m : List (List Key × β)}, l.map (·.1) = m.map (·.1) → (l.any fun kv => decide (kv.1 = k)) = (m.any fun kv => decide (kv.1 = k))
  | [], [], _ => rfl
  | [], _ :: _, e => by cases e
  | _ :: _, [], e => by cases e
  | x :: l, y :: m, e => by
    rw [List.map_cons, List.map_cons] at e
    injection e with e1 e2
    rw [List.any_cons, List.any_cons, tkeys_any e2, e1]
theorem RepTs.put {K : PySem.W.Frag} {H : Hp} {k : List Key} {v : V} {d : D} (rv : Rep K H v d) : ∀ {vs : List (List Key × V)} {ds : List (List Key × D)}, RepTs K H vs ds → RepTs K H (putK vs k v) (putTD ds k d) := by
  have repl : ∀ {vs : List (List Key × V)} {ds : List (List Key × D)}, vs.map (·.1) = ds.map (·.1) → Reps K H (vs.map (·.2)) (ds.map (·.2)) → Reps K H ((vs.map fun kv => if kv.1 = k then (kv.1, v) else kv).map (·.2)) ((ds.map fun kv => if kv.1 = k then (kv.1, d) else kv).map (·.2)) := by
    intro vs
    induction vs with
    | nil =>
      intro ds e r
      cases ds with
      | nil => exact .nil
      | cons y ds => cases e
    | cons x vs ih =>
      intro ds e r
      cases ds with
      | nil => cases e
      | cons y ds =>
        rw [List.map_cons, List.map_cons] at e
        injection e with e1 e2
        cases r with
        | cons r1 r2 =>
          have rr := ih e2 r2
          by_cases h : x.1 = k
          · rw [List.map_cons, List.map_cons, List.map_cons, List.map_cons, if_pos h, if_pos (e1 ▸ h)]
            exact .cons rv rr
          · rw [List.map_cons, List.map_cons, List.map_cons, List.map_cons, if_neg h, if_neg (e1 ▸ h)]
            exact .cons r1 rr
  have keys : ∀ {α : Type} (v : α) (vs : List (List Key × α)), (vs.map fun kv => if kv.1 = k then (kv.1, v) else kv).map (·.1) = vs.map (·.1) := fun v vs => by
    rw [List.map_map]
    refine List.map_congr_left fun x _ => ?_
    show (if x.1 = k then (x.1, v) else x).1 = x.1
    split <;> rfl
  intro vs ds r
  unfold putK putTD
  rw [tkeys_any (k := k) r.1]
  split
  · exact ⟨by rw [keys v vs, keys d ds]; exact r.1, repl r.1 r.2⟩
  · refine ⟨by rw [List.map_append, List.map_append, r.1] <;> rfl, ?_⟩
    rw [List.map_append, List.map_append]
    exact r.2.append (.cons rv .nil)
def sPutT (i : Nat) (mt mv : TM) : SM := fun δ κ => mv δ (fun v => ∃ ds, δ[i]? = some (.m (.tdict ds)) ∧ mt δ (fun ld => ∃ ks : List Key, ld = .list (ks.map keyD) ∧ ds.length < sizeLine ∧ κ.nx (δ.set i (.m (.tdict (putTD ds ks v))))) (κ.er δ)) (κ.er δ)
/-! ### list(d) -/
end
end DL
set_option Elab.async false
set_option linter.all false
set_option maxRecDepth 100000
set_option maxHeartbeats 4000000
/-! DL53: single things, single rooms, all ways: plain facts. -/
namespace DL
open PySem PySem.Spec PyProof.Rows L2
variable [TabsC]
theorem setL_perm' {xs : List Int} (hn : xs.Nodup) : (setL xs).Perm xs :=
  (List.perm_ext_iff_of_nodup (setL_pair.imp fun h => Int.ne_of_lt h) hn).mpr fun _ => setL_mem
/-- in a chain the lesser sizes divide the greater ones -/
theorem chain_dvd {l : List Int} (h1 : l.Pairwise (· < ·)) (h2 : l.Pairwise (· ∣ ·)) {a b : Int} (ha : a ∈ l) (hb : b ∈ l) (hl : a ≤ b) : a ∣ b := by
  obtain ⟨i, hi, rfl⟩ := List.mem_iff_getElem.mp ha
  obtain ⟨j, hj, rfl⟩ := List.mem_iff_getElem.mp hb
  rcases Nat.lt_trichotomy i j with c | c | c
  · exact List.pairwise_iff_getElem.mp h2 i j hi hj c
  · subst c; exact Int.dvd_refl _
  · have := List.pairwise_iff_getElem.mp h1 j i hj hi c
    omega
/-! ### a dict as a row of different tuples -/
/-! ### how many different rows there are -/
theorem nodup_sub {α : Type} [DecidableEq α] : ∀ {W U : List α}, W.Nodup → (∀ v, v ∈ W → v ∈ U) → W.length ≤ U.length
  | [], _, _, _ => Nat.zero_le _
  | v :: W, U, hn, h => by
    have hn' := List.nodup_cons.mp hn
    have hv := h v List.mem_cons_self
    have ih := nodup_sub (U := U.erase v) hn'.2 fun w hw => (List.mem_erase_of_ne fun e => hn'.1 (by rw [← e]; exact hw)).mpr (h w (List.mem_cons_of_mem _ hw))
    rw [List.length_erase_of_mem hv] at ih
    have : 0 < U.length := List.length_pos_of_mem hv
    rw [List.length_cons]
    omega
end DL
set_option Elab.async false
set_option linter.all false
set_option maxRecDepth 100000
set_option maxHeartbeats 4000000
/-! DL54: spare things: plain facts. -/
namespace DL
open PySem PySem.Spec PyProof.Rows L2
variable [TabsC]
def sumT (L : Tab) (s : Int) : Int := ((L.filter fun p => decide (p.1 ≥ s)).map fun p => p.1 * p.2).sum
theorem sumT_cons (p : Int × Int) (r : Tab) (s : Int) : sumT (p :: r) s = (if p.1 ≥ s then p.1 * p.2 else 0) + sumT r s := by
  unfold sumT
  rw [List.filter_cons]
  by_cases h : p.1 ≥ s
  · rw [if_pos (decide_eq_true h), if_pos h, List.map_cons, List.sum_cons]
  · rw [if_neg (by rw [decide_eq_true_eq]; exact h), if_neg h, Int.zero_add]
/-! ### how many more fit -/
end DL
set_option Elab.async false
set_option linter.all false
set_option maxRecDepth 100000
set_option maxHeartbeats 4000000
/-! DL55: a law's end over a head that is run once: what the end leans on is asked of the heap by one Hook. -/
namespace DL
open PySem PySem.Spec PyProof.Rows L2
/-! ### the end -/
end DL
set_option Elab.async false
set_option linter.all false
set_option maxRecDepth 100000
set_option maxHeartbeats 4000000
/-! DL56: counts put together; lots that are easier: plain facts. -/
namespace DL
open PySem PySem.Spec PyProof.Rows L2
variable [TabsC]
def countedD (L : Tab) : D := .obj "Counted" [("own_counts", .dict (tabD L))]
/-! ### a lot as a store -/
/-! ### empty rows -/
end DL
set_option Elab.async false
set_option linter.all false
set_option maxRecDepth 100000
set_option maxHeartbeats 4000000
/-! DL57: zip of three tuples; max and min of ints with a default. -/
namespace DL
open PySem PySem.Spec PyProof.Rows L2
variable [TabsC]
section
variable {X : Cx} {W : WX} {e e2 e3 : Expr} {ba bb : Bool} {la : LM} {mb : TM} {p pos : Pos}
def zip3D : List D → List D → List D → List D
  | x :: xs, y :: ys, z :: zs => .tup [x, y, z] :: zip3D xs ys zs
  | _, _, _ => []
def mZip3 (la : LM) : LM := fun δ P E => la δ (fun ds => ∃ xs ys zs, ds = [.tup xs, .tup ys, .tup zs] ∧ P (zip3D xs ys zs)) E
/-! ### max(ints, default=d), min(ints, default=d) -/
def bestI (mx : Bool) (ns : List Int) (m : Int) : Prop := m ∈ ns ∧ ∀ y, y ∈ ns → if mx = true then y ≤ m else m ≤ y
def mBestD (mx : Bool) (la : LM) (md : TM) : TM := fun δ Q E => la δ (fun ds => md δ (fun d => ∃ ns : List Int, ds = [.list (ns.map .int)] ∧ (ns = [] → Q d) ∧ ∀ m, bestI mx ns m → Q (.int m)) E) E
end
end DL
set_option Elab.async false
set_option linter.all false
set_option maxRecDepth 100000
set_option maxHeartbeats 4000000
/-! DL58: equality of rows of ints; chains; how many rooms stay when runs are merged. -/
namespace DL
open PySem PySem.Spec PyProof.Rows L2
variable [TabsC]
/-! chains -/
def chN (ns : List Int) : Prop := ascL ns = true ∧ gapL ns = none ∧ 1 ≤ ns.length ∧ ns.length ≤ 12 ∧ ∀ i, i ∈ ns → 1 ≤ i ∧ i < 10 ^ 50
theorem setL_self {ns : List Int} (h : ascL ns = true) : setL ns = ns :=
  (setL_perm' ((pair_asc h).imp fun h => Int.ne_of_lt h)).eq_of_pairwise (le := (· < ·)) (fun a b _ _ h1 h2 => absurd h2 (by omega)) setL_pair (pair_asc h)
/-! how many rooms -/
end DL
set_option Elab.async false
set_option linter.all false
set_option maxRecDepth 100000
set_option maxHeartbeats 4000000
/-! DL59: plain facts that contracts share. -/
namespace DL
open PySem PySem.Spec PyProof.Rows L2
variable [TabsC]
local macro_rules | `(tactic| walk_at "dl") => `(tactic| simp only [DL.sSeq, DL.sSet, DL.sSetM, DL.sNext, DL.sFalse, DL.sBreak, DL.sCont, DL.sExpr, DL.sRet, DL.sRetN, DL.sIf, DL.sAsg, DL.sPar, DL.sParM, DL.sPar3, DL.sApp, DL.sExt, DL.sFor, DL.sFrz, DL.frzD, DL.mC, DL.mVar, DL.mMut, DL.mBin, DL.mCmp, DL.mCmpT, DL.mChain, DL.mChainT, DL.mTest, DL.mVal, DL.mNotT, DL.mAndT, DL.mOrT, DL.mAnd, DL.mOr, DL.mIf, DL.mNil, DL.mCons, DL.mTup, DL.mLst, DL.mB, DL.mCall, DL.mCall0, DL.mThunk, DL.mThk, DL.e_dm0, DL.e_dmv, DL.e_dmu, DL.e_dmm, DL.e_dms, DL.e_dmc, DL.mRepr, DL.sAug, DL.e_fI2, DL.fAugAdd, DL.fAugSub, DL.sRaise, DL.sRaise0, DL.sTry, DL.hsM, DL.hPlain, DL.hAs, DL.mEF, DL.mSFld, DL.sFld, DL.putFD, DL.mMeth0, DL.mProp, DL.mMake, DL.mMakeS, DL.mIsiC, DL.mKeys, DL.mVals, DL.mItems, DL.mDGet2, DL.mFunD, DL.mFunS, DL.mFunM, DL.mFunMS, DL.endK, DL.endM, DV.s.injEq, DL.fIs, DL.fIsNot, DL.e_nn, DL.e_nt, DL.e_nl, DL.e_ni, DL.e_fIx_1, DL.e_fIx_2, DL.e_fIx_3, DL.e_fIx_4, DL.e_fAdd_1, DL.e_fAdd_2, DL.e_fAdd_3, DL.e_fAdd_4, DL.e_fSub_1, DL.e_fEq_i, DL.e_fNe_i, DL.e_fEq_b, DL.e_fNe_b, DL.e_fI_1, DL.fMul, DL.fDiv, DL.fMod, DL.fPow, DL.e_fCmp_1, DL.e_fCmp_2, DL.fLt, DL.fLe, DL.fGt, DL.fGe, DL.e_fIsB_1, DL.e_fIsNotB_1, DL.e_fLen_1, DL.e_fLen_2, DL.e_fLen_3, DL.e_fLen_4, DL.eAbs, DL.eMax2, DL.eMin2, DL.e_fInt_1, DL.e_fInt_2, DL.fStr, DL.e_fTuple_1, DL.e_fTuple_2, DL.e_fList_1, DL.e_fList_2, DL.mDice, DL.mNeg, DL.mSlice, DL.mNoPart, DL.mPart, DL.e_fSlice_1, DL.e_fSlice_2, DL.mSeq, DL.mRange1, DL.mRange2, DL.mRange3, DL.mSigns, DL.mJoin, DL.mRev, DL.mStar, DL.mDGet, DL.mFld, DL.mMeth, DL.sPut, DL.sPutL, DL.sPutT, DL.mCallFn, DL.mCallK, DL.mRepT, DL.mCompK, DL.mListVals, DL.mListItems, DL.mCompD, DL.mRep, DL.sParMM, DL.sAppPop, DL.mSumVals, DL.mEqO, DL.mInO, DL.mLenO, DL.mGetO, DL.mFmt, DL.mJs, DL.mJoined, DL.mStrO, DL.mBinO, DL.e_inD, DL.e_lenD, DL.e_listD, DL.e_tupD, DL.e_eqD, DL.e_neD, DL.e_keyI, DL.e_keyS, DL.mFunMD, DL.mMaxLenD, DL.mTupRg1, DL.mTupRg2, DL.mChain3, DL.fSortSet, DL.mZip, DL.mZipM, DL.mEnumT, DL.mZip3, DL.mBestD, DL.gN, DL.gT, DL.gL, DL.gsNil, DL.gsCons, DL.mYes, DL.mComp, DL.wipeD, DL.mDisp, DL.mPairs, DL.mpNil, DL.mpCons, DL.startD, DL.mFun, List.getElem?_cons_zero, List.getElem?_cons_succ, List.set_cons_zero, List.set_cons_succ, Option.some.injEq, DV.v.injEq, DV.m.injEq, exists_eq_left', exists_eq_left, List.cons.injEq, and_true, true_and, List.map_cons, List.map_nil, List.length_cons, List.length_nil, List.cons_append, List.nil_append, List.replicate_succ, List.replicate_zero, Nat.reduceSub, Nat.reduceAdd, Nat.zero_add, Nat.zero_le, sizeLine_eq, Nat.reduceLeDiff, Int.reduceLE, Int.reduceLT, DL.p61, Int.reduceNeg, Int.zero_add, D.int.injEq, D.bool.injEq, D.str.injEq, D.list.injEq, D.tup.injEq, D.dict.injEq, DL.e_lk, D.obj.injEq, List.drop_zero, List.take_zero, List.take_succ_cons, List.take_nil, List.drop_succ_cons, List.drop_nil, D.script.injEq, Int.reduceToNat, exists_eq_right, exists_eq_right', List.append_nil, DL.ex2, DL.ex3, DL.atI_0, DL.atI_1, DL.cut_01, reduceCtorEq, false_and, and_false, exists_false, false_or, or_false, Bool.not_true, Bool.not_false, Bool.false_eq_true, if_true, if_false, ite_true, ite_false, decide_true, decide_false, reduceIte])
theorem pow_ok1 : CPowD 10 15 := ⟨by decide, by decide⟩
theorem pow_ok2 : CPowD 10 60 := ⟨by decide, by decide⟩
theorem mul_big : IntMulOk (10 ^ 60) (10 ^ 60) := (wide_mul (a := 200) (b := 200) (by decide) (by decide) (by decide) (by decide) (by decide)).ok
def intD : D → Bool
  | .int i => decide (-(10 ^ 200) < i) && decide (i < 10 ^ 200)
  | _ => false
theorem lim_lit : (100000000000000000000000000000000000000000000000000000000000000000000000000000000000000000000000000000000000000000000000000000000000000000000000000000000000000000000000000000000000000000000000000000000 : Int) = 10 ^ 200 := by decide +kernel
def sizD : D → Bool
  | .int i => decide (1 ≤ i) && decide (i < 10 ^ 200)
  | _ => false
theorem siz_eq (i : Int) : sizD (.int i) = (intD (.int i) && decide (i ≥ 1)) := by
  simp only [sizD, intD, ge_iff_le]
  by_cases h : 1 ≤ i
  · rw [decide_eq_true h, decide_eq_true (show -(10 ^ 200) < i by omega)]; simp
  · rw [decide_eq_false h, Bool.false_and, Bool.and_false]
def noE (nm : Str) : Er := ⟨nm, none⟩
def tabOk (L : Tab) : Prop := (keysT L).Nodup ∧ L.length ≤ 12 ∧ ∀ p, p ∈ L → (1 ≤ p.1 ∧ p.1 < 10 ^ 200) ∧ (1 ≤ p.2 ∧ p.2 < 10 ^ 200)
theorem siz_ok {i : Int} (h : 1 ≤ i ∧ i < 10 ^ 200) : sizD (.int i) = true := by
  simp only [sizD, Bool.and_eq_true, decide_eq_true_eq]
  exact h
theorem sort_comp {L : Tab} {s : D} {Q : D → Prop} (hL : tabOk L) (q : Q (.dict (tabD (sortT L)))) (d1 : DV) : fSortK [.dict (tabD L)] fun d => (∃ ds, d = .list ds ∧ compD (gN 3) mYes (mVar 3) (mDGet (mVar 2) (mVar 3)) [DV.s s, d1, DV.v (.dict (tabD L)), .u] ds [] Q) ∨ ∃ ds, d = .tup ds ∧ compD (gN 3) mYes (mVar 3) (mDGet (mVar 2) (mVar 3)) [DV.s s, d1, DV.v (.dict (tabD L)), .u] ds [] Q := by
  refine ⟨tabD L, keysT L, rfl, tab_keysK L, by unfold keysT; rw [List.length_map]; have := hL.2.1; omega, fun ms hp hs => .inl ⟨_, rfl, ?_⟩⟩
  have e := setL_perm hp hL.1 hs
  subst e
  have hk : ∀ k, k ∈ setL (keysT L) → ∃ v, valT L k = some v := fun k hk => by
    obtain ⟨p, hp, rfl⟩ := List.mem_map.mp (setL_mem.mp hk)
    exact ⟨p.2, valT_mem hL.1 hp⟩
  have ef : (setL (keysT L)).filter (fun _ => true) = setL (keysT L) := List.filter_eq_self.mpr fun _ _ => rfl
  refine compD_tab (acc := []) (fun k => (k, cntT L k)) (fun _ => true) D.int (fun k hk' R S h => ?_) ?_ ?_
  · rw [if_pos rfl] at h
    obtain ⟨v, hv⟩ := hk k hk'
    walk_at "dl"
    have ec : cntT L k = v := by unfold cntT; rw [hv] <;> rfl
    dsimp only at h
    rw [ec] at h
    exact ⟨.int v, by rw [valD_tab, hv] <;> rfl, h⟩
  · rw [List.nil_append, ef]
    exact sortT_nodup L
  · rw [List.nil_append, ef]
    exact q
def runD : D → Bool
  | .tup [a, b] => sizD a && sizD b
  | _ => false
def runArg (d : D) : Prop := d.tyn.isSome = true ∧ ∀ xs, d = .tup xs → xs.length ≤ 1000 ∧ ∀ x, x ∈ xs → x.tyn.isSome = true
def noE' (nm : Str) : Er := ⟨nm, none⟩
theorem isCls_row {d : D} (h : d.tyn.isSome = true) : isClsD "Row" d = false := by
  cases d with
  | obj n fs => cases h
  | _ => rfl
theorem runD_pair {d : D} (h : runD d = true) : ∃ p : Int × Int, d = pairD p ∧ (1 ≤ p.1 ∧ p.1 < 10 ^ 200) ∧ (1 ≤ p.2 ∧ p.2 < 10 ^ 200) := by
  cases d with
  | tup xs =>
    match xs, h with
    | [a, b], h =>
      simp only [runD, Bool.and_eq_true] at h
      cases a <;> first | cases h.1 | skip
      cases b <;> first | cases h.2 | skip
      rename_i x y
      simp only [sizD, Bool.and_eq_true, decide_eq_true_eq] at h
      exact ⟨(x, y), rfl, h.1, h.2⟩
  | _ => cases h
theorem runs_of : ∀ {ds : List D}, ds.all runD = true → ∃ L : Runs, ds = L.map pairD ∧ ∀ p, p ∈ L → (1 ≤ p.1 ∧ p.1 < 10 ^ 200) ∧ (1 ≤ p.2 ∧ p.2 < 10 ^ 200)
  | [], _ => ⟨[], rfl, fun p hp => by cases hp⟩
  | d :: ds, h => by
    rw [List.all_cons, Bool.and_eq_true] at h
    obtain ⟨p, rfl, hp⟩ := runD_pair h.1
    obtain ⟨L, rfl, hL⟩ := runs_of h.2
    refine ⟨p :: L, rfl, fun q hq => ?_⟩
    rcases List.mem_cons.mp hq with rfl | hq
    · exact hp
    · exact hL q hq
theorem run_arg (p : Int × Int) : runArg (pairD p) := ⟨rfl, fun xs e => by
  cases e
  exact ⟨by rw [List.length_cons, List.length_cons, List.length_nil]; decide, fun x hx => by
    simp only [List.mem_cons, List.not_mem_nil, or_false] at hx
    rcases hx with rfl | rfl <;> rfl⟩⟩
theorem run_yes {p : Int × Int} (h : (1 ≤ p.1 ∧ p.1 < 10 ^ 200) ∧ 1 ≤ p.2 ∧ p.2 < 10 ^ 200) : runD (pairD p) = true := by
  show (sizD (.int p.1) && sizD (.int p.2)) = true
  simp only [sizD, Bool.and_eq_true, decide_eq_true_eq]
  exact h
theorem siz_int {d : D} (h : sizD d = true) : ∃ i, d = .int i ∧ 1 ≤ i ∧ i < 10 ^ 200 := by
  cases d with
  | int i =>
    simp only [sizD, Bool.and_eq_true, decide_eq_true_eq] at h
    exact ⟨i, rfl, h⟩
  | _ => cases h
def profL (ns : List Int) (R : Runs) : List Int := ns.map fun s => spaceT R s
theorem iOf_int (k : Int) : iOf (.int k) = k := rfl
end DL
set_option Elab.async false
set_option linter.all false
set_option maxRecDepth 100000
set_option maxHeartbeats 4000000
/-! DL60: equality of dicts from ints to ints. -/
namespace DL
open PySem PySem.Spec PyProof.Rows L2
end DL
set_option Elab.async false
set_option linter.all false
set_option maxRecDepth 100000
set_option maxHeartbeats 4000000
/-! DL61: which store takes all of another one: plain facts. -/
namespace DL
open PySem PySem.Spec PyProof.Rows L2
end DL
set_option Elab.async false
set_option linter.all false
set_option maxRecDepth 100000
set_option maxHeartbeats 4000000
/-! DL62: a, b = e, [..]; a cell of one's own that is lent while an expression is reckoned. -/
namespace DL
open PySem PySem.Spec PyProof.Rows L2
variable [TabsC]
section
variable {X : Cx} {W : WX} {a b e : Expr} {ba : Bool} {ma mb : TM} {x y : Str} {pos : Pos}
def sParVM (i j : Nat) (ma mb : TM) : SM := fun δ k => ma δ (fun d => mb δ (fun e => k.nx ((δ.set i (.v d)).set j (.m e))) (k.er δ)) (k.er δ)
/-! ### lending -/
def flatD : D → Bool
  | .none => true
  | .bool _ => true
  | .int _ => true
  | .str _ => true
  | _ => false
theorem Rep.flat {K : PySem.W.Frag} {H H' : Hp} {v : V} {d : D} (r : Rep K H v d) (h : flatD d = true) : Rep K H' v d := by
  cases r with
  | non => exact .non
  | bool b => exact .bool b
  | int i => exact .int i
  | str x => exact .str x
  | _ => cases h
/-- slot i, a cell of ours, is a plain value while an expression is reckoned; what comes has no parts -/
def mLend (i : Nat) (m : TM) : TM := fun δ Q _ => ∃ d, δ[i]? = some (.m d) ∧ m (δ.set i (.v d)) (fun r => flatD r = true ∧ Q r) NoE
end
end DL
set_option Elab.async false
set_option linter.all false
set_option maxRecDepth 100000
set_option maxHeartbeats 4000000
/-! DL63: isinstance(x, T), T a built-in kind, where x may be an own instance. -/
namespace DL
open PySem PySem.Spec PyProof.Rows L2
variable [TabsC]
def BackOwn (K : PySem.W.Frag) (others : List Str) : Prop := ∀ (m : Str) (Cm : Addr), m ∈ others → PySem.W.nsIn K mainGlobals m = some (some (.ref Cm)) → kitBack K Cm = true
theorem BackOwn.of {K : PySem.W.Frag} {others : List Str} (tbl : List (Str × Addr)) (h1 : others = tbl.map (·.1)) (hns : ∀ p ∈ tbl, PySem.W.nsIn K mainGlobals p.1 = some (some (.ref p.2)))
    (h2 : (tbl.all fun p => kitBack K p.2) = true) : BackOwn K others := by
  intro m Cm hm em
  rw [h1] at hm
  obtain ⟨p, hp, rfl⟩ := List.mem_map.mp hm
  have ep := hns p hp
  rw [ep] at em
  cases em
  exact List.all_eq_true.mp h2 p hp
def fIsiT (others : List Str) (n : String) (d : D) (Q : D → Prop) : Prop := (∃ t r, d.tyn = some t ∧ kitB t n = some r ∧ Q (.bool r)) ∨ ∃ m fs, d = .obj m fs ∧ m ∈ others ∧ Q (.bool false)
def mIsiT (others : List Str) (n : String) (ma : TM) : TM := fun δ Q E => ma δ (fun d => fIsiT others n d Q) E
section
variable {X : Cx} {W : WX} {a : Expr} {ba : Bool} {ma : TM} {n : String} {pos p p2 : Pos} {others : List Str} {x : Str}
theorem de_isiT (ho : KitOwn X.K others) (hb : BackOwn X.K others) (hin : n ∈ ownTys) (hg : Gl X "isinstance") (hm : X.mg "isinstance" = none) (ha : DE X W a ba ma)
    (hgx : Gl X x) (hmx : X.mg x = none) (hvx : bootBuiltins x = some (.type n)) (hn : x ≠ "__name__" := by decide) (hd : (x == ("__debug__" : Str)) = false := by decide)
    (hs : starEach [a, .Name x p2] X.env = (false, eval a X.env) :: starEach [.Name x p2] X.env := by rfl) (hs2 : starEach [.Name x p2] X.env = (false, eval (.Name x p2) X.env) :: starEach [] X.env := by rfl) (hpl : (backTo pos (starEach [.Name x p2] X.env)).any (·.1) = false := by rfl) :
    DE X W (.Call (.Name "isinstance" p) [a, .Name x p2] [] pos) false (mIsiT others n ma) :=
  PE.imp (pe_callB call_isi hg hm (by decide +kernel) (pa_cons ha (pa_cons (pe_bltn hgx hmx hvx (show RelV (.ty n) (.type n) from rfl) hn hd) pa_nil hs2) hs) (by decide) (by decide) hs hpl) fun σ H Q ⟨F, own, δ, P, EK, A, m, q⟩ => ⟨F, own, δ, _, EK, A, m, fun d v H1 m1 s1 r1 => by
    rcases m1 with ⟨t, r, ht, hk, m1⟩ | ⟨m', fs, rfl, hm', m1⟩
    · exact ⟨v, .ty n, .type t, .type n, r, rfl, .ty n, tyx_rv r1 ht, kit_ty hk, q _ _ H1 m1 s1 (.cl (.bool _))⟩
    · obtain ⟨C', a, dx, vs, hC', rfl, h1, h2⟩ := r1.obj
      have T := ho.ins m' C' hm' hC'
      refine ⟨.ref a, .ty n, .ref C', .type n, false, rfl, .ty n, .base (.ins h1 T.cl T.fc T.sg T.tk T.mo), ?_, q _ _ H1 m1 s1 (.cl (.bool _))⟩
      exact of_decide_eq_true (List.all_eq_true.mp (hb m' C' hm' hC') n hin)⟩
end
/-! what is asked of plain values and of own instances -/
theorem isx_of {d : D} {n : String} {others : List Str} {r : Bool} {Q : D → Prop} (k : ∀ t, d.tyn = some t → kitB t n = some r) (ko : ∀ m fs, d = .obj m fs → r = false) (h : okB others d) : fIsiT others n d Q = Q (.bool r) := by
  refine propext ⟨fun z => ?_, fun z => ?_⟩
  · rcases z with ⟨t, r', ht, hk, q⟩ | ⟨m, fs, e, _, q⟩
    · rw [k t ht] at hk; cases hk; exact q
    · rw [ko m fs e]; exact q
  · rcases h with h | ⟨m, fs, e, hm⟩
    · obtain ⟨t, ht⟩ := Option.isSome_iff_exists.mp h
      exact .inl ⟨t, r, ht, k t ht, z⟩
    · rw [ko m fs e] at z
      exact .inr ⟨m, fs, e, hm, z⟩
section
variable {d : D} {Q : D → Prop} {others : List Str}
theorem isx_int (h : okB others d) : fIsiT others "int" d Q = Q (.bool d.isI) := isx_of (fun _ => kit_int) (fun m fs e => by rw [e]; rfl) h
theorem isx_bool (h : okB others d) : fIsiT others "bool" d Q = Q (.bool d.isB) := isx_of (fun _ => kit_bool) (fun m fs e => by rw [e]; rfl) h
theorem isx_str (h : okB others d) : fIsiT others "str" d Q = Q (.bool d.isS) := isx_of (fun _ => kit_str) (fun m fs e => by rw [e]; rfl) h
theorem isx_tup (h : okB others d) : fIsiT others "tuple" d Q = Q (.bool d.isT) := isx_of (fun _ => kit_tup) (fun m fs e => by rw [e]; rfl) h
theorem isx_dict (h : okB others d) : fIsiT others "dict" d Q = Q (.bool d.isD) := isx_of (fun _ => kit_dict) (fun m fs e => by rw [e]; rfl) h
end
end DL
set_option Elab.async false
set_option linter.all false
set_option maxRecDepth 100000
set_option maxHeartbeats 4000000
/-! DL64: profiles and plain stores: plain facts. -/
namespace DL
open PySem PySem.Spec PyProof.Rows L2
variable [TabsC]
def roomsF : List Int → List Int → List Int
  | lo :: hi :: cs, a :: b :: us => (a - b * (hi / lo)) :: roomsF (hi :: cs) (b :: us)
  | _, [a] => [a - 0]
  | _, _ => []
def plainR (ns us : List Int) : Runs := (ns.zip (roomsF ns us)).filter fun p => decide (p.2 > 0)
/-- the units of a plain store, from the greatest size on -/
theorem space_filter (L : Runs) (s : Int) (h : ∀ p, p ∈ L → 0 ≤ p.2) : spaceT (L.filter fun p => decide (p.2 > 0)) s = spaceT L s := by
  induction L with
  | nil => rfl
  | cons p r ih =>
    have hp := h p List.mem_cons_self
    have ih := ih fun q hq => h q (List.mem_cons_of_mem _ hq)
    rw [List.filter_cons]
    by_cases c : p.2 > 0
    · rw [if_pos (decide_eq_true c)]
      unfold spaceT at ih ⊢
      rw [List.map_cons, List.map_cons, List.sum_cons, List.sum_cons, ih]
    · rw [if_neg (by rw [decide_eq_true_eq]; exact c), ih]
      have : p.2 = 0 := by omega
      unfold spaceT
      rw [List.map_cons, List.sum_cons, this, Int.zero_mul, Int.zero_add]
theorem space_cons (p : Int × Int) (r : Runs) (s : Int) : spaceT (p :: r) s = p.2 * (p.1 / s) + spaceT r s := by
  unfold spaceT
  rw [List.map_cons, List.sum_cons]
theorem space_dvd {r : Runs} {lo hi : Int} (h1 : 1 ≤ lo) (h2 : lo ∣ hi) (h : ∀ p, p ∈ r → hi ∣ p.1) (hh : 1 ≤ hi) : spaceT r lo = spaceT r hi * (hi / lo) := by
  induction r with
  | nil => unfold spaceT; simp
  | cons p r ih =>
    rw [space_cons, space_cons, ih fun q hq => h q (List.mem_cons_of_mem _ hq), Int.add_mul]
    congr 1
    obtain ⟨c, e⟩ := h p List.mem_cons_self
    obtain ⟨d, e2⟩ := h2
    subst e2
    rw [e, Int.mul_ediv_cancel_left c (by omega), Int.mul_ediv_cancel_left d (by omega), Int.mul_assoc, Int.mul_ediv_cancel_left _ (by omega), Int.mul_assoc, Int.mul_comm d c]
theorem space_zip : ∀ {ns us : List Int}, ns.Pairwise (· < ·) → ns.Pairwise (· ∣ ·) → (∀ i, i ∈ ns → 1 ≤ i) → ns.length = us.length → ns.map (fun s => spaceT (ns.zip (roomsF ns us)) s) = us
  | [], us, _, _, _, h => by cases us <;> simp_all
  | [lo], us, _, _, hp, h => by
    cases us with
    | nil => simp at h
    | cons a r => cases r with
      | nil =>
        have := hp lo (by simp)
        simp only [List.map_cons, List.map_nil, roomsF, List.zip_cons_cons, List.zip_nil_right, space_cons, Int.sub_zero]
        rw [Int.ediv_self (by omega), Int.mul_one, show spaceT [] lo = 0 from rfl, Int.add_zero]
      | cons b r => simp at h
  | lo :: hi :: cs, us, ha, hd, hp, h => by
    cases us with
    | nil => simp at h
    | cons a r => cases r with
      | nil => simp at h
      | cons b r =>
        have ih := space_zip (ns := hi :: cs) (us := b :: r) (List.pairwise_cons.mp ha).2 (List.pairwise_cons.mp hd).2 (fun i hi => hp i (List.mem_cons_of_mem _ hi)) (by simpa using h)
        have l1 := hp lo List.mem_cons_self
        have l2 := hp hi (by simp)
        have e : (lo :: hi :: cs).zip (roomsF (lo :: hi :: cs) (a :: b :: r)) = (lo, a - b * (hi / lo)) :: (hi :: cs).zip (roomsF (hi :: cs) (b :: r)) := by rw [roomsF, List.zip_cons_cons]
        have hkeys : ∀ p, p ∈ (hi :: cs).zip (roomsF (hi :: cs) (b :: r)) → hi ∣ p.1 := fun p hp' => by
          have hm : p.1 ∈ hi :: cs := (List.of_mem_zip (a := p.1) (b := p.2) hp').1
          rcases List.mem_cons.mp hm with z | z
          · rw [z]; exact Int.dvd_refl _
          · exact (List.pairwise_cons.mp (List.pairwise_cons.mp hd).2).1 _ z
        have hb : spaceT ((hi :: cs).zip (roomsF (hi :: cs) (b :: r))) hi = b := by
          have := congrArg (fun l => l.headD 0) ih
          simpa using this
        rw [e, List.map_cons]
        congr 1
        · rw [space_cons, Int.ediv_self (by omega), Int.mul_one, space_dvd l1 ((List.pairwise_cons.mp hd).1 hi (by simp)) hkeys l2, hb]
          omega
        · rw [← ih]
          refine List.map_congr_left fun s hs => ?_
          have lt := (List.pairwise_cons.mp ha).1 s hs
          rw [space_cons, Int.ediv_eq_zero_of_lt (by omega) lt, Int.mul_zero, Int.zero_add, ih]
theorem prof_plain {ns us : List Int} (ha : ascL ns = true) (hg : gapL ns = none) (hp : ∀ i, i ∈ ns → 1 ≤ i) (hl : ns.length = us.length) (h0 : ∀ r, r ∈ roomsF ns us → 0 ≤ r) : profL ns (plainR ns us) = us := by
  have := space_zip (pair_asc ha) (pair_gap hg) hp hl
  unfold profL plainR
  rw [← this]
  refine List.map_congr_left fun s hs => ?_
  rw [this, space_filter _ _ fun p hp => h0 _ (List.of_mem_zip (a := p.1) (b := p.2) hp).2]
end DL
set_option Elab.async false
set_option linter.all false
set_option maxRecDepth 100000
set_option maxHeartbeats 4000000
/-! DL65: equality of rows of pairs. -/
namespace DL
open PySem PySem.Spec PyProof.Rows L2
variable [TabsC]
theorem eqD_pair (p q : Int × Int) : eqD (pairD p) (pairD q) = decide (p = q) := by
  show eqD (.tup [.int p.1, .int p.2]) (.tup [.int q.1, .int q.2]) = _
  rw [eqD_tup]
  show (eqD (.int p.1) (.int q.1) && (eqD (.int p.2) (.int q.2) && true)) = _
  rw [eqD_int, eqD_int, Bool.and_true, Bool.eq_iff_iff, Bool.and_eq_true, beq_iff_eq, beq_iff_eq, decide_eq_true_eq]
  exact ⟨fun h => Prod.ext h.1 h.2, fun h => by rw [h]; exact ⟨rfl, rfl⟩⟩
theorem eqAll_pairs : ∀ R S : Runs, eqAll (R.map pairD) (S.map pairD) = decide (R = S)
  | [], [] => rfl
  | [], _ :: _ => rfl
  | _ :: _, [] => rfl
  | p :: R, q :: S => by
    show (eqD (pairD p) (pairD q) && eqAll (R.map pairD) (S.map pairD)) = _
    rw [eqD_pair, eqAll_pairs R S, Bool.eq_iff_iff, Bool.and_eq_true, decide_eq_true_eq, decide_eq_true_eq, decide_eq_true_eq, List.cons.injEq]
theorem fine_runs_tup (R : Runs) : (D.tup (R.map pairD)).fine = true := (fineN_tup (n := 1) fun d hd => by
  obtain ⟨p, _, rfl⟩ := List.mem_map.mp hd
  exact fineN_tup (n := 0) (ds := [.int p.1, .int p.2]) fun d hd => by
    simp only [List.mem_cons, List.not_mem_nil, or_false] at hd
    rcases hd with rfl | rfl <;> exact fineN_int).fine (by decide)
theorem eq_runs (R S : Runs) {Q : Bool → Prop} (q : Q (decide (R = S))) : fEq (.tup (R.map pairD)) (.tup (S.map pairD)) Q :=
  ⟨fine_runs_tup R, fine_runs_tup S, by rw [eqD_tup, eqAll_pairs]; exact q⟩
end DL
set_option Elab.async false
set_option linter.all false
set_option maxRecDepth 100000
set_option maxHeartbeats 4000000
/-! DL66: a tuple times one. -/
namespace DL
open PySem PySem.Spec PyProof.Rows L2
variable [TabsC]
theorem tuple_mul1 (l : Addr) (items : Array Value) (n : Nat) (dd : Option Addr) (sl : Array (Option Value)) (x : Int) (u : Tok) (c0 : (decide (x < -(2 ^ 63)) || decide (x ≥ 2 ^ 63)) = false) (c1 : (items.isEmpty || x == 1) = true) :
    Meets (Builtin.«tuple.__mul__» ⟨[.ref l, .int x u], []⟩) (fun _ R s => s.heap.get? l = some { cls := .type "tuple", dict := dd, data := .seq items n, slots := sl } ∧ R (.ok (.ret (Value.ref l))) s) :=
  .of_wp fun prog w A R s h => by
    obtain ⟨hp, g, d, tk, os⟩ := s
    obtain ⟨hl, h⟩ := h
    have f1 := AutoSeq1.idx_int
    wp_walk using wpAny_loadPart' hl
    repeat (first
      | (refine wpAny_ite_false (decide_eq_false (by rw [c0]; exact Bool.false_ne_true)) ?_; wp_walk using wpAny_loadPart' hl)
      | (refine wpAny_ite_true (decide_eq_true (by rw [c1])) ?_; wp_walk using wpAny_loadPart' hl))
    exact ⟨_, rfl, h⟩
def rRepU (K : PySem.W.Frag) : R2 := fun x y H Q => ∃ l k xs, x = .ref l ∧ y = .int k ∧ SqT K H l xs ∧ xs ≠ [] ∧ 1 ≤ k ∧ k ≤ 1000 ∧ xs.length ≤ 1000 ∧ (k = 1 → Q (.ref l) H) ∧ ∀ p, H p = none → Q (.ref p) (upd H p (.tup (List.replicate k.toNat xs).flatten))
section
variable {X : Cx} {W : WX} {a b : Expr} {ba bb : Bool} {ma mb : TM} {pos : Pos}
theorem op_repU : OpR X (binaryOp .Mult) (rRepU X.K) := by
  intro pins s σ H x y v u Q I rx ry h
  obtain ⟨l, k, xs, ex, ey, hT, hne, h1, h2, hz, q1, q⟩ := h
  by_cases hk : 2 ≤ k
  · exact op_repT pins s σ H x y v u Q I rx ry ⟨l, k, xs, ex, ey, hT, hne, hk, h2, hz, q⟩
  obtain rfl : k = 1 := by omega
  subst ex ey
  cases rx
  obtain ⟨t, rfl⟩ := ry
  obtain ⟨its, r, ⟨⟨cls, dd, data, sl⟩, ho, hc, n, hd⟩, hs⟩ := I.tuple hT
  simp only at hc hd
  subst hc hd
  refine wpAny_binaryOp_repeat_ref (T := "tuple") (U := "int") (by decide) ⟨_, ho, rfl⟩ (fun s' => typeIs_int s' 1 t) noFill_tuple_mul F.fills_int_mul F.slot_int_rmul repeat_tuple F.slot_int_index.lookup
    (call_meets F.slot_int_rmul (typeIs_int s 1 t) F.entry_int_rmul (F.args_int_rmul_2 _ _) (int_rmul_tuple 1 t l its.toArray n dd sl)
      ⟨ho, rfl, ⟨_, ho, rfl⟩, call_meets F.slot_tuple_mul ⟨_, ho, rfl⟩ F.entry_tuple_mul (F.args_tuple_mul_2 _ _) (tuple_mul1 l its.toArray n dd sl 1 t (by decide) (by rw [Bool.or_eq_true]; exact .inr rfl)) ⟨ho, ?_⟩⟩)
  exact ⟨.ref l, H, I, rfl, q1 rfl⟩
def mRepU (ma mb : TM) : TM := fun δ Q E => ma δ (fun x => mb δ (fun y => ∃ ds k, x = .tup ds ∧ y = .int k ∧ ds ≠ [] ∧ 1 ≤ k ∧ k ≤ 1000 ∧ ds.length ≤ 1000 ∧ Q (.tup (List.replicate k.toNat ds).flatten)) E) E
theorem de_repU (ha : DE X W a false ma) (hb : DE X W b bb mb) : DE X W (.BinOp a .Mult b pos) false (mRepU ma mb) :=
  PE.imp (pe_op op_repU ha hb) fun σ H Q ⟨F, own, δ, P, EK, A, mm, q⟩ => ⟨F, own, δ, _, EK, A, mm, fun d x H1 m1 s1 r1 => ⟨F, own, δ, _, EK, A.on s1, m1, fun d2 y H2 ⟨ds, k, ed, ek, hne, k1, k2, hz, pd⟩ s2 r2 => by
    subst ed ek
    have r1' := (r1.mono s2.ob).clean
    obtain ⟨l, xs, rfl, h1, h2, h3⟩ := (r1.mono s2.ob).tup
    have ek := r2.isInt
    subst ek
    have hx : xs ≠ [] := fun z => hne (by cases ds with
      | nil => rfl
      | cons d r => rw [z] at h3; cases h3)
    refine ⟨l, k, xs, rfl, rfl, h1, hx, k1, k2, by rw [h3.length]; exact hz, fun e => ?_, fun p hp => q _ _ _ pd ((s1.trans s2).trans (same_upd hp)) (.cl (new_tup (A.env.grow (s1.trans s2)).trk hp ?_ (h3.flat _)))⟩
    · subst e
      have e2 : (List.replicate (1 : Int).toNat ds).flatten = ds := by simp
      rw [e2] at pd
      exact q _ _ _ pd (s1.trans s2) (.cl r1')
    · have e1 : xs.length ≤ 1000 := by rw [h3.length]; exact hz
      have : xs.length * k.toNat ≤ 1000 * 1000 := Nat.mul_le_mul e1 (by omega)
      rw [flat_len, sizeLine_eq]
      omega⟩⟩
end
end DL
set_option Elab.async false
set_option linter.all false
set_option maxRecDepth 100000
set_option maxHeartbeats 4000000
/-! DL67: sorted of pairs of ints, of a list or a tuple. -/
namespace DL
open PySem PySem.Spec PyProof.Rows L2 SrtO
end DL
namespace DL
open PySem PySem.Spec PyProof.Rows L2
variable [TabsC]
def PairA (K : PySem.W.Frag) (H : Hp) (x : V) (m : Int × Int) : Prop := ∃ t, x = V.ref t ∧ SqT K H t [.int m.1, .int m.2]
theorem PairA.inj {X : Cx} {pins : List (Addr × Obj)} {σ : L2.St} {H : Hp} {s : Shared} (I : Inv X pins σ H s) {x : V} {m n : Int × Int} (h : PairA X.K H x m) (h' : PairA X.K H x n) : m = n := by
  obtain ⟨t, rfl, ht⟩ := h
  obtain ⟨t', e, ht'⟩ := h'
  cases e
  obtain ⟨i1, r1, ⟨o, ho, hc, k, hd⟩, _⟩ := I.tuple ht
  obtain ⟨i2, r2, ⟨o', ho', hc', k', hd'⟩, _⟩ := I.tuple ht'
  obtain ⟨u1, u2, rfl, ri, rj⟩ := vals2 r1
  obtain ⟨w1, w2, rfl, si, sj⟩ := vals2 r2
  obtain ⟨t1, rfl⟩ := ri
  obtain ⟨t2, rfl⟩ := rj
  obtain ⟨t3, rfl⟩ := si
  obtain ⟨t4, rfl⟩ := sj
  rw [ho] at ho'
  cases ho'
  rw [hd] at hd'
  have e2 : (#[Value.int m.1 t1, Value.int m.2 t2] : Array Value) = #[Value.int n.1 t3, Value.int n.2 t4] := by injection hd'
  simp at e2
  exact Prod.ext e2.1.1 e2.2.1
end DL
set_option Elab.async false
set_option linter.all false
set_option maxRecDepth 100000
set_option maxHeartbeats 4000000
/-! DL68: fewest rooms, least rooms, least caps: the plain law. -/
namespace DL
open PySem PySem.Spec PyProof.Rows L2
/-! ### so many alike rooms -/
/-! ### the greatest rooms -/
/-! how many units the greatest rooms have, without any order -/
/-! ### caps -/
end DL
set_option Elab.async false
set_option linter.all false
set_option maxRecDepth 100000
set_option maxHeartbeats 4000000
/-! DL69: max and min of ints in a list, a tuple or a dict. -/
namespace DL
open PySem PySem.Spec PyProof.Rows L2
end DL
set_option Elab.async false
set_option linter.all false
set_option maxRecDepth 100000
set_option maxHeartbeats 4000000
/-! DL70: bounds and plain facts for the contracts of the fewest. -/
namespace DL
open PySem PySem.Spec PyProof.Rows L2
variable [TabsC]
theorem lim200 {a b : Int} (h1 : 0 ≤ a) (h2 : a < 10 ^ 200) (h3 : 0 ≤ b) (h4 : b < 10 ^ 200) : IntMulOk a b := by
  have h5 : (10 : Int) ^ 200 < 10 ^ 240 := by decide +kernel
  have h0 : (0 : Int) < 10 ^ 240 := by decide +kernel
  have k : (-(10 ^ 240) < a ∧ a < 10 ^ 240) ∧ (-(10 ^ 240) < b ∧ b < 10 ^ 240) := by
    generalize (10 : Int) ^ 240 = A at *
    generalize (10 : Int) ^ 200 = C at *
    omega
  exact mul_lim k.1.1 k.1.2 k.2.1 k.2.2
/-- a chained lot as the package keeps it -/
structure lotC (L : Tab) : Prop where
  b : bndL L
  a : ascL (keysT L) = true
  g : gapL (keysT L) = none
theorem lotC.self {L : Tab} (h : lotC L) : setL (keysT L) = keysT L := setL_self h.a
/-- a walk with what is left of the row -/
theorem forL_ind {g : GM} {mb : SM} {k : KD} (P : List D → List DV → Prop) (h0 : ∀ δ, P [] δ → k.nx δ) (h1 : ∀ (d : D) (ds : List D) (δ : List DV) (N : List DV → Prop), P (d :: ds) δ → (∀ δ', P ds δ' → N δ') → g d δ fun δ' => mb δ' { k with nx := N, ct := N, bk := k.nx }) :
    ∀ {ds : List D} {δ : List DV}, P ds δ → forL g mb ds δ k
  | [], δ, h => h0 δ h
  | d :: ds, δ, h => h1 d ds δ _ h fun δ' h' => forL_ind P h0 h1 h'
end DL
set_option Elab.async false
set_option linter.all false
set_option maxRecDepth 100000
set_option maxHeartbeats 4000000
/-! DL71: lots scaled and multiplied; sizes that bar. -/
namespace DL
open PySem PySem.Spec PyProof.Rows L2
variable [TabsC]
theorem sortT_self {L : Tab} (h : ascL (keysT L) = true) : sortT L = L := by
  have hn : (keysT L).Nodup := by
    have := pair_asc h
    exact List.nodup_iff_pairwise_ne.mpr (this.imp fun h => by omega)
  unfold sortT
  rw [setL_self h]
  unfold keysT
  rw [List.map_map]
  have : L.map ((fun k => (k, cntT L k)) ∘ fun p => p.1) = L.map id := List.map_congr_left fun p hp => by
    show (p.1, cntT L p.1) = p
    rw [cntT_mem hn hp]
  rw [this, List.map_id]
theorem sumT_dvd {L : Tab} {s : Int} (h : ∀ k, k ∈ keysT L → s ≤ k → s ∣ k) : s ∣ sumT L s := by
  induction L with
  | nil => exact Int.dvd_zero s
  | cons p r ih =>
    rw [sumT_cons]
    refine Int.dvd_add ?_ (ih fun k hk => h k (List.mem_cons_of_mem _ hk))
    split
    · rename_i c
      exact Int.dvd_mul_of_dvd_left (h p.1 List.mem_cons_self c)
    · exact Int.dvd_zero s
theorem lotC.dvd {L : Tab} (h : lotC L) {s : Int} (hs : s ∈ keysT L) : s ∣ sumT L s := sumT_dvd fun k hk hl => chain_dvd (pair_asc h.a) (pair_gap h.g) hs hk hl
end DL
set_option Elab.async false
set_option linter.all false
set_option maxRecDepth 100000
set_option maxHeartbeats 4000000
/-! DL72: least numbers seen by the sizes that bar. -/
namespace DL
open PySem PySem.Spec PyProof.Rows L2
/-! stores -/
end DL
set_option Elab.async false
set_option linter.all false
set_option maxRecDepth 100000
set_option maxHeartbeats 4000000
/-! DL73: one more thing; the last rooms of an ascending store. -/
namespace DL
open PySem PySem.Spec PyProof.Rows L2
variable [TabsC]
/-! ### one more thing -/
theorem asc_nodup {ks : List Int} (h : ascL ks = true) : ks.Nodup := List.nodup_iff_pairwise_ne.mpr ((pair_asc h).imp fun h => by omega)
end DL
set_option Elab.async false
set_option linter.all false
set_option maxRecDepth 100000
set_option maxHeartbeats 4000000
/-! DL74: the last rooms of an ascending store are its greatest ones. -/
namespace DL
open PySem PySem.Spec PyProof.Rows L2
end DL
set_option Elab.async false
set_option linter.all false
set_option maxRecDepth 100000
set_option maxHeartbeats 4000000
/-! DL75: parts that fit: the smallest first give the most things, the greatest first the greatest total. -/
namespace DL
open PySem PySem.Spec PyProof.Rows L2
/-! ### sums over the sizes of a chain -/
end DL
set_option Elab.async false
set_option linter.all false
set_option maxRecDepth 100000
set_option maxHeartbeats 4000000
/-! DL76: parts of a lot as tables. -/
namespace DL
open PySem PySem.Spec PyProof.Rows L2
variable [TabsC]
/-- a table over the sizes of a lot -/
structure tabIn (C : Tab) (T : Tab) : Prop where
  n : (keysT T).Nodup
  k : ∀ s, s ∈ keysT T → s ∈ keysT C
  v : ∀ p, p ∈ T → 0 ≤ p.2 ∧ p.2 ≤ cntT C p.1
/-- a part of a lot -/
structure partOk (C P : Tab) : Prop where
  a : ascL (keysT P) = true
  k : ∀ s, s ∈ keysT P → s ∈ keysT C
  v : ∀ p, p ∈ P → 1 ≤ p.2 ∧ p.2 ≤ cntT C p.1
theorem partOk.tab {C P : Tab} (h : partOk C P) : tabIn C P := ⟨asc_nodup h.a, h.k, fun p hp => by have := h.v p hp; omega⟩
theorem tabIn.len {C T : Tab} (h : tabIn C T) (hC : lotC C) : T.length ≤ 12 := by
  have h1 : (setL (keysT T)).length ≤ (keysT C).length := (asc_sub setL_pair (pair_asc hC.a) fun k z => h.k k (setL_mem.mp z)).length_le
  rw [← sortT_keys, keys_len, keys_len, (sortT_perm h.n).length_eq] at h1
  exact Nat.le_trans h1 hC.b.2.1
end DL
set_option Elab.async false
set_option linter.all false
set_option maxRecDepth 100000
set_option maxHeartbeats 4000000
/-! DL77: the end over a head that is run once, for laws with lambdas. -/
namespace DL
open PySem PySem.Spec PyProof.Rows L2
theorem fn_okU {K : PySem.W.Frag} {a : Addr} {n q : Str} {ps : Arguments} {b : List Stmt} {sc : Scope} (e : fnV K a = some (n, q, ps, .stmts b, sc, mainGlobals, [], builtinsNs)) (c : fnBU K a q = true) :
    ∃ oc od kV dc pm an ct sl te td tv tl, K.lookup a = some ⟨oc, od, .func (PySem.W.fnOf n q ps b sc .none kV dc pm an (.ref (codeOf K a)) ct), sl⟩ ∧ PySem.W.codeIn K (.ref (codeOf K a)) q = true ∧ K.lookup (codeOf K a) = some ⟨te, td, .fields tv, tl⟩ ∧ tv[11]? = some (.ref (tbOf K a)) ∧ K.lookup (tbOf K a) = none := by
  obtain ⟨oc, od, dV, kV, dc, pm, an, cd, ct, sl, l, f⟩ := fn_look e
  unfold fnBU at c
  rw [f] at c
  obtain ⟨c1, c2⟩ := He.ba c
  obtain ⟨c2, c3⟩ := He.ba c2
  obtain ⟨c3, c4⟩ := He.ba c3
  obtain ⟨c4, c5⟩ := He.ba c4
  have c5 := Option.isNone_iff_eq_none.mp c5
  cases dV with
  | none =>
    cases cd with
    | ref C =>
      have eC : codeOf K a = C := by unfold codeOf; rw [f] <;> rfl
      obtain ⟨P, hP⟩ := Option.isSome_iff_exists.mp c4
      have eT : tbOf K a = P := by unfold tbOf; rw [hP] <;> rfl
      rw [eT] at c5 ⊢
      unfold tbO at hP
      obtain ⟨tv, h1, h2⟩ := Option.bind_eq_some_iff.mp hP
      obtain ⟨te, td, tl, h3⟩ := fields_ok h1
      rw [eC] at h3 ⊢
      exact ⟨oc, od, kV, dc, pm, an, ct, sl, te, td, tv, tl, l, c1, h3, tbV_ok h2, c5⟩
    | _ => cases c3
  | _ => cases c2
theorem walkDEU {l : PySem.W.OpenLaw} {k : Nat} {q : Program} {loose : List Str} {XP : (Str → Option Value) → Heap → Prop} {YP : World → Heap → Prop} {d : DefRec} {m : FM} (hI : importsNone q = true) (hn : l.most = some 63) (hdf : d.params.defaults = []) (hr : Room k callerA) (hm : LawTrue m)
    (F : ∀ (w : World) (mg : Str → Option Value) (fa : Addr) (h : Heap), YP w h → h.Ns mainGlobals mg → mg d.name = some (.ref fa) → ∃ K : PySem.W.Frag, K.In h ∧
      ∃ (T : List (Addr × Str)) (cs : List (Addr × Addr)), (∀ p ∈ T, p.1 ∈ cs.map (·.2)) ∧ (∀ p ∈ cs, ∃ dn fc, LamAt K mg q dn fc p.1 p.2) ∧ ∀ base : Heap, K.In base → base.Ns mainGlobals mg → (∀ p ∈ cs, LamX.TabB base mg p.1 p.2) → @FnD ⟨T⟩ l.prog w K mg base k fa m) :
    PySem.W.WalkO q loose XP YP l.row.toRowW d [] (fun f vs => PySem.call f vs) := by
  refine Att.attach_call hn hdf fun w s0 s1 mg mb fa o pm cd doc a vs ns G Y ho hd hcd hmg hobj hints hlen hg => ?_
  obtain ⟨mm, hmm, _⟩ := (G.T.seer hI).mods
  obtain ⟨K, KX, T, cs, hTs, hcs, hF⟩ := F w mg fa _ Y G.T.g hmg
  letI : TabsC := ⟨T⟩
  have tab : ∀ p ∈ cs, s1.heap.get? p.2 = some noTab ∧ K.lookup p.2 = none ∧ PySem.W.CodeHd s1.heap p.1 p.2 := fun p hp => by
    obtain ⟨dn, fc, g, rec, ⟨o1, fd1, k1, k2, k3⟩, ⟨e4, dd4, vs4, sl4, k4, k5⟩, k6⟩ := hcs p hp
    obtain ⟨dL, hmem, hname⟩ := List.any_eq_true.mp rec
    obtain ⟨a', o', fd', c', P', h1, h2, h3, h4, h5, h6⟩ := G.T.tab dL hmem
    rw [beq_iff_eq.mp hname, g] at h1
    cases h1
    rw [KX _ _ k1] at h2
    cases h2
    rw [k2] at h3
    cases h3
    rw [k3] at h4
    cases h4
    have h6' := h6
    obtain ⟨⟨oc, vc, e1, _, e3, e4'⟩, hP⟩ := h6
    rw [KX _ _ k4] at e1
    cases e1
    cases e3
    rw [k5] at e4'
    cases e4'
    exact ⟨hP, k6, .of h5 h6'⟩
  exact law_callT KX G.T.g G.T.b G.T.builtins G.T.nolimit hg ⟨mm, hmm⟩ hTs (fun p hp => (tab p hp).1) (fun p hp => (tab p hp).2.1) (fun p hp => (tab p hp).2.2) G.T.bmain hobj hints hr hF hm hlen
end DL
set_option Elab.async false
set_option linter.all false
set_option maxRecDepth 100000
set_option maxHeartbeats 4000000
/-! DL78: == and `in` over nested data with dicts among it. -/
namespace DL
open PySem PySem.Spec PyProof.Rows L2
variable [TabsC]
/-- a value as it is read, a dict of one's own too -/
def RD (K : PySem.W.Frag) (H : Hp) (v : V) (d : D) : Prop := Rep K H v d ∨ ∃ a xs ds, v = .ref a ∧ d = .dict ds ∧ Rd H a (.dK xs) ∧ RepKs K H xs ds
theorem RD.rep {K : PySem.W.Frag} {H : Hp} {v : V} {d : D} (r : RD K H v d) (n : isDic d = false) : Rep K H v d := by
  rcases r with r | ⟨a, xs, ds, rfl, rfl, _⟩
  · exact r
  · cases n
theorem RD.dict {K : PySem.W.Frag} {H : Hp} {v : V} {ds : List (Key × D)} (r : RD K H v (.dict ds)) : ∃ a xs, v = .ref a ∧ Rd H a (.dK xs) ∧ RepKs K H xs ds := by
  rcases r with r | ⟨a, xs, ds', rfl, e, h, rr⟩
  · cases r with
    | dict h l rr => exact ⟨_, _, rfl, .inr ⟨_, h⟩, rr⟩
  · cases e
    exact ⟨a, xs, rfl, h, rr⟩
/-! ### in, of a list -/
/-! plain facts: dicts of ints, lists of such -/
end DL
set_option Elab.async false
set_option linter.all false
set_option maxRecDepth 100000
set_option maxHeartbeats 4000000
/-! DL79: the parts of a lot, one by one. -/
namespace DL
open PySem PySem.Spec PyProof.Rows L2
end DL
set_option Elab.async false
set_option linter.all false
set_option maxRecDepth 100000
set_option maxHeartbeats 4000000
/-! DL80: tables in a list of dicts; parts that fit. -/
namespace DL
open PySem PySem.Spec PyProof.Rows L2
end DL
set_option Elab.async false
set_option linter.all false
set_option maxRecDepth 100000
set_option maxHeartbeats 4000000
/-! DL81: list + list as a new list of one's own. -/
namespace DL
open PySem PySem.Spec PyProof.Rows L2
variable [TabsC]
section
variable {X : Cx} {W : WX} {a b c e : Expr} {ba bb : Bool} {ma mb : TM} {pos p apos cpos : Pos}
def fAddL (x y : D) (Q : D → Prop) : Prop := match x, y with
  | .list xs, .list ys => xs.length + ys.length ≤ sizeLine ∧ Q (.list (xs ++ ys))
  | _, _ => False
theorem e_fAddL {xs ys : List D} {Q : D → Prop} : fAddL (.list xs) (.list ys) Q = (xs.length + ys.length ≤ sizeLine ∧ Q (.list (xs ++ ys))) := rfl
end
end DL
set_option Elab.async false
set_option linter.all false
set_option maxRecDepth 100000
set_option maxHeartbeats 4000000
/-! DL82: paying greatest coins first. -/
namespace DL
open PySem PySem.Spec PyProof.Rows L2
end DL
set_option Elab.async false
set_option linter.all false
set_option maxRecDepth 100000
set_option maxHeartbeats 4000000
/-! DL83: a name stored within a test; while. -/
namespace DL
open PySem PySem.Spec PyProof.Rows L2
variable [TabsC]
section
variable {X : Cx} {W : WX} {a b c e : Expr} {ba bb : Bool} {ma mb : TM} {na : BM} {sts sts' : List Stmt} {m m' : SM} {pos p1 p2 p3 p4 : Pos} {j : Nat}
def sIfW (neg : Bool) (i : Nat) (ma : TM) (m m' : SM) : SM := fun δ k => ma δ (fun d => if (neg ^^ isNoneD d) = true then m (δ.set i (.v d)) k else m' (δ.set i (.v d)) k) (k.er δ)
end
end DL
set_option Elab.async false
set_option linter.all false
set_option maxRecDepth 100000
set_option maxHeartbeats 4000000
/-! DL84: rooms by their index; shutters. -/
namespace DL
open PySem PySem.Spec PyProof.Rows L2
end DL
set_option Elab.async false
set_option linter.all false
set_option maxRecDepth 100000
set_option maxHeartbeats 4000000
/-! DL85: rooms of merged rows; a claim for any row that is drawn. -/
namespace DL
open PySem PySem.Spec PyProof.Rows L2
end DL
set_option Elab.async false
set_option linter.all false
set_option maxRecDepth 100000
set_option maxHeartbeats 4000000
/-! DL86: shutters, listed and decided. -/
namespace DL
open PySem PySem.Spec PyProof.Rows L2
end DL
set_option Elab.async false
set_option linter.all false
set_option maxRecDepth 100000
set_option maxHeartbeats 4000000
/-! DL87: list(zip(a, b)), at the library's level. -/
namespace PySem
end PySem
namespace DL
open PySem PySem.Spec PyProof.Rows L2
variable [TabsC]
/-- the zip at z and its parts, before turn i -/
def ZSt (z TI TO i1 i2 a b : Addr) (i : Nat) (h : Heap) : Prop :=
  ((IsZip h z TI TO .none ∧ ∃ x y, PySem.IsTupOf2 h TO x y) ∨ ∃ T f oT, IsZipHeld h z TI TO T f ∧ h.get? T = some oT ∧ oT.cls = .type "tuple" ∧ T ∉ [z, TI, TO, i1, i2] ∧ ∃ x y, PySem.IsTupOf2 h TO x y) ∧ PySem.IsTupOf2 h TI (.ref i1) (.ref i2) ∧ h.IsTupleIter i1 a i ∧ h.IsTupleIter i2 b i
theorem ZSt.keep {z TI TO i1 i2 a b : Addr} {i : Nat} {h h' : Heap} {S : Addr} (st : ZSt z TI TO i1 i2 a b i h) (hS : S ∉ [z, TI, TO, i1, i2]) (hl : ∀ o, h.get? S = some o → o.cls ≠ .type "tuple") (k : ∀ c o, c ≠ S → h.get? c = some o → h'.get? c = some o) : ZSt z TI TO i1 i2 a b i h' := by
  obtain ⟨st, hTI, h1, h2⟩ := st
  have ne : ∀ c, c ∈ [z, TI, TO, i1, i2] → c ≠ S := fun c hc e => hS (e ▸ hc)
  refine ⟨?_, k _ _ (ne _ (by simp)) hTI, h1.at fun o q => k _ _ (ne _ (by simp)) q, h2.at fun o q => k _ _ (ne _ (by simp)) q⟩
  rcases st with ⟨hz, x, y, hTO⟩ | ⟨T, f, oT, hz, hT, hc, hn, x, y, hTO⟩
  · exact .inl ⟨k _ _ (ne _ (by simp)) hz, x, y, k _ _ (ne _ (by simp)) hTO⟩
  · exact .inr ⟨T, f, oT, k _ _ (ne _ (by simp)) hz, k _ _ (fun e => hl oT (e ▸ hT) hc) hT, hc, hn, x, y, k _ _ (ne _ (by simp)) hTO⟩
section
variable {X : Cx} {W : WX} {e e2 : Expr} {ba : Bool} {la : LM} {p p2 pos pos2 : Pos}
/-- list(zip(x, y)) of two tuples -/
def mListZip (la : LM) : TM := fun δ Q E => la δ (fun ds => ∃ xs ys, ds = [.tup xs, .tup ys] ∧ Q (.list (zipD xs ys))) E
end
end DL
set_option Elab.async false
set_option linter.all false
set_option maxRecDepth 100000
set_option maxHeartbeats 4000000
/-! DL88: sum of a tuple of ints. -/
namespace DL
open PySem PySem.Spec PyProof.Rows L2
variable [TabsC]
section
variable {X : Cx}
def fSumT (ds : List D) (Q : D → Prop) : Prop := ∃ ns : List Int, ds = [.tup (ns.map .int)] ∧ Q (.int ns.sum)
end
end DL
set_option Elab.async false
set_option linter.all false
set_option maxRecDepth 100000
set_option maxHeartbeats 4000000
/-! DL89: profiles given by a function of the size; the common and the joint store. -/
namespace DL
open PySem PySem.Spec PyProof.Rows L2
variable [TabsC]
/-- a function of the size that is a profile: of numbers below 10 ** 200, a unit is parted into units below -/
structure ProfF (ns : List Int) (f : Int → Int) : Prop where
  bnd : ∀ s, s ∈ ns → 0 ≤ f s ∧ f s < 10 ^ 200
  stp : ∀ lo hi, lo ∈ ns → hi ∈ ns → lo ∣ hi → f hi * (hi / lo) ≤ f lo
theorem ProfF.rooms {f : Int → Int} : ∀ {ns : List Int}, ns.Pairwise (· ∣ ·) → ProfF ns f → ∀ r, r ∈ roomsF ns (ns.map f) → 0 ≤ r
  | [], _, _, r, h => by simp [roomsF] at h
  | [lo], _, hp, r, h => by
    simp only [roomsF, List.map_cons, List.map_nil, List.mem_cons, List.not_mem_nil, or_false, Int.sub_zero] at h
    rw [h]
    exact (hp.bnd lo (by simp)).1
  | lo :: hi :: cs, hd, hp, r, h => by
    have e : roomsF (lo :: hi :: cs) ((lo :: hi :: cs).map f) = (f lo - f hi * (hi / lo)) :: roomsF (hi :: cs) ((hi :: cs).map f) := rfl
    rw [e] at h
    rcases List.mem_cons.mp h with h | h
    · have := hp.stp lo hi (by simp) (by simp) ((List.pairwise_cons.mp hd).1 hi (by simp))
      omega
    · exact ProfF.rooms (List.pairwise_cons.mp hd).2 ⟨fun s hs => hp.bnd s (List.mem_cons_of_mem _ hs), fun a b ha hb => hp.stp a b (List.mem_cons_of_mem _ ha) (List.mem_cons_of_mem _ hb)⟩ r h
theorem ProfF.len (ns : List Int) (f : Int → Int) : ns.length = (ns.map f).length := (List.length_map f).symm
/-- its plain store -/
def plF (ns : List Int) (f : Int → Int) : Runs := plainR ns (ns.map f)
theorem plF_prof {ns : List Int} {f : Int → Int} (hn : chN ns) (h : ProfF ns f) : profL ns (plF ns f) = ns.map f :=
  prof_plain hn.1 hn.2.1 (fun i hi => (hn.2.2.2.2 i hi).1) (ProfF.len ns f) (h.rooms (pair_gap hn.2.1))
theorem plF_space {ns : List Int} {f : Int → Int} (hn : chN ns) (h : ProfF ns f) {s : Int} (hs : s ∈ ns) : spaceT (plF ns f) s = f s := List.map_inj_left.mp (plF_prof hn h) s hs
theorem ProfF.plain {ns : List Int} {f : Int → Int} (hn : chN ns) (h : ProfF ns f) : ProfF ns (spaceT (plF ns f)) :=
  ⟨fun s hs => by rw [plF_space hn h hs]; exact h.bnd s hs, fun lo hi h1 h2 hd => by rw [plF_space hn h h1, plF_space hn h h2]; exact h.stp lo hi h1 h2 hd⟩
end DL
set_option Elab.async false
set_option linter.all false
set_option maxRecDepth 100000
set_option maxHeartbeats 4000000
/-! DL90: xs.count(k), xs a list of ints. -/
namespace DL
open PySem PySem.Spec PyProof.Rows L2
variable [TabsC]
section
variable {X : Cx} {W : WX} {o e : Expr} {ba bb : Bool} {ma mb : TM} {apos cpos : Pos}
def mLCount (ma mb : TM) : TM := fun δ Q E => ma δ (fun x => ∃ ns : List Int, x = .list (ns.map .int) ∧ mb δ (fun y => ∃ k : Int, y = .int k ∧ Q (.int (ns.count k : Nat))) E) E
end
end DL
set_option Elab.async false
set_option linter.all false
set_option maxRecDepth 100000
set_option maxHeartbeats 4000000
/-! DL91: the first and the last things of a lot, the thing at an index. -/
namespace DL
open PySem PySem.Spec PyProof.Rows L2
end DL
set_option Elab.async false
set_option linter.all false
set_option maxRecDepth 100000
set_option maxHeartbeats 4000000
/-! DL92: a lot's things as a row; both ends together make the lot. -/
namespace DL
open PySem PySem.Spec PyProof.Rows L2
end DL
set_option Elab.async false
set_option linter.all false
set_option maxRecDepth 100000
set_option maxHeartbeats 4000000
/-! DL93: a lot's two ends. -/
namespace DL
open PySem PySem.Spec PyProof.Rows L2
variable [TabsC]
def okM (M : Tab) : Prop := (keysT M).Pairwise (· < ·) ∧ M.length ≤ 12 ∧ ∀ p, p ∈ M → 1 ≤ p.2 ∧ p.2 ≤ 10 ^ 60
theorem okM.nd {M : Tab} (h : okM M) : (keysT M).Nodup := h.1.imp fun h => by omega
theorem okM.pos {M : Tab} (h : okM M) : ∀ p, p ∈ M → 1 ≤ p.2 := fun p hp => (h.2.2 p hp).1
end DL
set_option Elab.async false
set_option linter.all false
set_option maxRecDepth 100000
set_option maxHeartbeats 4000000
/-! DL94: least numbers by single rooms. -/
namespace DL
open PySem PySem.Spec PyProof.Rows L2
end DL
set_option Elab.async false
set_option linter.all false
set_option maxRecDepth 100000
set_option maxHeartbeats 4000000
/-! DL95: a dict merged into a new one ({**d, ..}). -/
namespace PySem
end PySem
namespace PySem
end PySem
set_option Elab.async false
set_option linter.all false
set_option maxRecDepth 100000
set_option maxHeartbeats 4000000
/-! DL96: {**d, k: v}. -/
namespace DL
open PySem PySem.Spec PyProof.Rows L2
def mDStar (md mk mv : TM) : TM := fun δ Q E => md δ (fun d => ∃ ds : List (Key × D), d = .dict ds ∧ ds.length ≤ 1000 ∧ mk δ (fun x => mv δ (fun y => ∃ k : Key, x = keyD k ∧ Q (.dict (putD (mergeD [] ds) k y))) E) E) E
section
variable [TabsC]
theorem At.grab {K : PySem.W.Frag} {W : WX} {σ : L2.St} {H H' : Hp} {F : Fm} {own : List Addr} {δ : List DV} {EK : Er → Prop} {p : Addr} (A : At K W σ H F own δ EK) (hp : H p = none) (s : Same H H') (hn : ∃ o, H' p = some o ∧ Plain o) :
    At K W σ H' F (p :: own) δ EK :=
  ⟨A.env.grab hp s hn, fun er cls dd H'' k s' r => A.pass er cls dd H'' k (s.trans s') (r.less fun b hb => (List.mem_append.mp hb).elim (fun z => List.mem_append_left _ z) fun z => List.mem_append_right _ (List.mem_cons_of_mem _ z))⟩
end
end DL
set_option Elab.async false
set_option linter.all false
set_option maxRecDepth 100000
set_option maxHeartbeats 4000000
/-! DL97: tables told by their counts. -/
namespace DL
open PySem PySem.Spec PyProof.Rows L2
section
variable [TabsC]
theorem cnt_out {L : Tab} {k : Int} (h : k ∉ keysT L) : cntT L k = 0 := by
  unfold cntT
  rw [valT_none h] <;> rfl
theorem nd_asc {L : Tab} (a : ascL (keysT L) = true) : (keysT L).Nodup := List.nodup_iff_pairwise_ne.mpr ((pair_asc a).imp fun h => by omega)
end
end DL
set_option Elab.async false
set_option linter.all false
set_option maxRecDepth 100000
set_option maxHeartbeats 4000000
/-! DL98: a lot's record: ascending sizes, counts of at least 1, with bounds. -/
namespace DL
open PySem PySem.Spec PyProof.Rows L2
section
variable [TabsC]
structure recOk (P : Tab) (K B : Int) : Prop where
  a : ascL (keysT P) = true
  l : P.length ≤ 12
  b : ∀ p, p ∈ P → (1 ≤ p.1 ∧ p.1 ≤ K) ∧ 1 ≤ p.2 ∧ p.2 ≤ B
theorem recOk.nd {P : Tab} {K B : Int} (h : recOk P K B) : (keysT P).Nodup := nd_asc h.a
theorem recOk.pos {P : Tab} {K B : Int} (h : recOk P K B) : ∀ p, p ∈ P → 1 ≤ p.2 := fun p hp => (h.b p hp).2.1
theorem recOk.self {P : Tab} {K B : Int} (h : recOk P K B) : sortT P = P := sortT_self h.a
theorem recOk.tab {P : Tab} {K B : Int} (h : recOk P K B) (hK : K < 10 ^ 200) (hB : B < 10 ^ 200) : tabOk P := ⟨h.nd, h.l, fun p hp => by have := h.b p hp; exact ⟨⟨by omega, by omega⟩, by omega, by omega⟩⟩
end
end DL
set_option Elab.async false
set_option linter.all false
set_option maxRecDepth 100000
set_option maxHeartbeats 4000000
/-! DL99: sums and differences of records. -/
namespace DL
open PySem PySem.Spec PyProof.Rows L2
end DL
set_option Elab.async false
set_option linter.all false
set_option maxRecDepth 100000
set_option maxHeartbeats 4000000
/-! DL100: records told by their counts; dict(list of pairs of a table). -/
namespace DL
open PySem PySem.Spec PyProof.Rows L2
section
variable [TabsC]
theorem recOk.at {P : Tab} {K B : Int} (h : recOk P K B) (k : Int) : cntT P k = 0 ∨ ((1 ≤ k ∧ k ≤ K) ∧ 1 ≤ cntT P k ∧ cntT P k ≤ B) := by
  by_cases e : k ∈ keysT P
  · obtain ⟨p, hp, rfl⟩ := List.mem_map.mp e
    rw [cntT_mem h.nd hp]
    exact .inr (h.b p hp)
  · exact .inl (cnt_out e)
end
end DL
set_option Elab.async false
set_option linter.all false
set_option maxRecDepth 100000
set_option maxHeartbeats 4000000
/-! DL101: sums over tables that are added. -/
namespace DL
open PySem PySem.Spec PyProof.Rows L2
end DL
set_option Elab.async false
set_option linter.all false
set_option maxRecDepth 100000
set_option maxHeartbeats 4000000
/-! DL102: a class whose __iter__ gives iter(self.f), f a tuple or a dict: list(o). -/
namespace DL
open PySem PySem.Spec PyProof.Rows L2
variable [TabsC]
def tupIt (t : Addr) : Obj := { cls := .type "tuple_iterator", data := .fields #[.ref t, .int 0 0] }
def keyIt (d : Addr) (n ep : Nat) : Obj := { cls := .type "dict_keyiterator", data := .fields #[.ref d, .int 0 0, .int n 0, .int ep 0] }
/-- what is walked -/
def SrcV (K : PySem.W.Frag) (H : Hp) (v : V) (ys : List V) : Prop :=
  (∃ t, v = .ref t ∧ SqT K H t ys) ∨ ∃ (d : Addr) (od : Obj) (kvs : List (Key × V)), v = .ref d ∧ H d = some (.frz od (.dK kvs)) ∧ ys = kvs.map fun kv => kV kv.1
/-- .. with its new iterator's object -/
def ItSrc (K : PySem.W.Frag) (H : Hp) (v : V) (ys : List V) (o : Obj) : Prop :=
  (∃ t, v = .ref t ∧ SqT K H t ys ∧ o = tupIt t) ∨ ∃ (d : Addr) (od : Obj) (kvs : List (Key × V)) (es : Array DictEntry) (ep : Nat), v = .ref d ∧ H d = some (.frz od (.dK kvs)) ∧ ys = (kvs.map fun kv => kV kv.1) ∧ od.data = .dict es ep ∧ o = keyIt d kvs.length ep
theorem ItSrc.grow {K : PySem.W.Frag} {H H' : Hp} {v : V} {ys : List V} {o : Obj} (h : ItSrc K H v ys o) (e : Grow H H') : ItSrc K H' v ys o := by
  rcases h with ⟨t, h1, h2, h3⟩ | ⟨d, od, kvs, es, ep, h1, h2, h3⟩
  · refine .inl ⟨t, h1, ?_, h3⟩
    rcases h2 with (h2 | ⟨o, h2⟩) | h2
    · exact .inl (.inl (e _ _ h2))
    · exact .inl (.inr ⟨o, e _ _ h2⟩)
    · exact .inr h2
  · exact .inr ⟨d, od, kvs, es, ep, h1, e _ _ h2, h3⟩
/-! ### __iter__ -/
/-! ### list(o) -/
end DL
set_option Elab.async false
set_option linter.all false
set_option maxRecDepth 100000
set_option maxHeartbeats 4000000
/-! DL103: list(o) of a class whose __iter__ gives iter(self.f). -/
namespace DL
open PySem PySem.Spec PyProof.Rows L2
variable [TabsC]
theorem SrcV.grow {K : PySem.W.Frag} {H H' : Hp} {v : V} {ys : List V} (h : SrcV K H v ys) (e : Grow H H') : SrcV K H' v ys := by
  rcases h with ⟨t, h1, h2⟩ | ⟨d, od, kvs, h1, h2, h3⟩
  · refine .inl ⟨t, h1, ?_⟩
    rcases h2 with (h2 | ⟨o, h2⟩) | h2
    · exact .inl (.inl (e _ _ h2))
    · exact .inl (.inr ⟨o, e _ _ h2⟩)
    · exact .inr h2
  · exact .inr ⟨d, od, kvs, h1, e _ _ h2, h3⟩
/-! ### over data -/
def srcD (w : D) (k : List D → Prop) : Prop := match w with
  | .tup ds => k ds
  | .dict kvs => k (kvs.map fun kv => keyD kv.1)
  | _ => False
theorem e_srcT (ds : List D) (k : List D → Prop) : srcD (.tup ds) k = k ds := rfl
theorem e_srcK (kvs : List (Key × D)) (k : List D → Prop) : srcD (.dict kvs) k = k (kvs.map fun kv => keyD kv.1) := rfl
def mListO (n f : Str) (mL : FM) (ma : TM) : TM := fun δ Q E => ma δ (fun a => ∃ fs : List (Str × D), a = .obj n fs ∧ ∃ w, fs.lookup f = some w ∧ mL [a] (fun r => ∃ i : Int, r = .int i ∧ 0 ≤ i ∧ i < 2 ^ 24) NoE ∧ srcD w fun ds => Q (.list ds)) E
end DL
set_option Elab.async false
set_option linter.all false
set_option maxRecDepth 100000
set_option maxHeartbeats 4000000
/-! DL104: a def that gives a new container of its own: x = o.f, x written behind it. -/
namespace DL
open PySem PySem.Spec PyProof.Rows L2
variable [TabsC]
def spF (K : PySem.W.Frag) (m : FM) : Sp := fun vs H Q E => ∃ (fo : List Addr) (ds : List D) (P : D → Prop) (EK : Er → Prop), (∀ l, l ∈ fo → ∃ o, H l = some o ∧ Plain o) ∧ LamX.Tabs TabsC.T H ∧ Reps K (sub H fo) vs ds ∧ m ds P EK ∧
  (∀ d p H', P d → H p = none → Same H H' → FV K (p :: fo) H' p d → Q (.ref p) H') ∧ (∀ er cls dd H', EK er → Same H H' → RepEr K fo H' cls dd er → E cls dd H')
abbrev FnF (P : Program) (w : World) (K : PySem.W.Frag) (mg : Str → Option Value) (base : Heap) (k : Nat) (f : Addr) (m : FM) : Prop := FnP P w K mg base k f (spF K m)
theorem FnF.imp {P : Program} {w : World} {K : PySem.W.Frag} {mg : Str → Option Value} {base : Heap} {k : Nat} {f : Addr} {m m' : FM} (F : FnF P w K mg base k f m) (h : ∀ ds Q E, m' ds Q E → m ds Q E) : FnF P w K mg base k f m' :=
  fun A outer s H us vs Q E hG hr e r ⟨fo, ds, P, EK, t, tb, rs, m, q⟩ => F A outer s H us vs Q E hG hr e r ⟨fo, ds, P, EK, t, tb, rs, h _ _ _ m, q⟩
end DL
set_option Elab.async false
set_option linter.all false
set_option maxRecDepth 100000
set_option maxHeartbeats 4000000
/-! DL105: a lot as it is told: text, lines. -/
namespace DL
open PySem PySem.Spec PyProof.Rows L2
end DL
set_option Elab.async false
set_option linter.all false
set_option maxRecDepth 100000
set_option maxHeartbeats 4000000
/-! DL106: d.pop(k, e) of a dict that has no such key. -/
namespace DL
open PySem PySem.Spec PyProof.Rows L2
variable [TabsC]
section
variable {X : Cx} {W : WX} {o e e2 : Expr} {ba bb : Bool} {ma mk mc : TM} {apos pos cpos : Pos} {td ty tx : TE}
def mDPopN (ma mk mv : TM) : TM := fun δ Q E => ma δ (fun d => ∃ ds : List (Key × D), d = .dict ds ∧ mk δ (fun kd => mv δ (fun v => ∃ key : Key, kd = keyD key ∧ valD ds key = none ∧ Q v) E) E) E
end
end DL
set_option Elab.async false
set_option linter.all false
set_option maxRecDepth 100000
set_option maxHeartbeats 4000000
/-! DL107: how many rooms of each, as a table; a store's text. -/
namespace DL
open PySem PySem.Spec PyProof.Rows L2
end DL
set_option Elab.async false
set_option linter.all false
set_option maxRecDepth 100000
set_option maxHeartbeats 4000000
/-! DL108: runs whose neighbours differ; merging twice. -/
namespace DL
open PySem PySem.Spec PyProof.Rows L2
end DL
set_option Elab.async false
set_option linter.all false
set_option maxRecDepth 100000
set_option maxHeartbeats 4000000
/-! DL109: classmethods: C.m(e, ..), and cls(e) in such a body. -/
namespace DL
open PySem PySem.Spec PyProof.Rows L2
variable [TabsC]
section
variable {X : Cx} {W : WX} {e : Expr} {es : List Expr} {ba : Bool} {ma : TM} {la : LM} {mm : FM} {mi : MM} {pos p apos : Pos} {n m x : Str} {k : Nat} {C q g : Addr} {mc : Value}
def mCM (n : Str) (m : FM) (la : LM) : TM := fun δ Q E => la δ (fun ds => m (.fn n :: ds) Q E) E
/-- x(e, ..), where x is a name that holds a class -/
def mMakeL (i : Nat) (n : Str) (m : MM) (la : LM) : TM := fun δ Q E => δ[i]? = some (.v (.fn n)) ∧ mMake n m la δ Q E
/-- x(*e), where x is a name that holds a class -/
def mMakeSL (i : Nat) (n : Str) (m : MM) (ma : TM) : TM := fun δ Q E => δ[i]? = some (.v (.fn n)) ∧ mMakeS n m ma δ Q E
end
/-! ### what of the text a classmethod must have, told by looking -/
end DL
set_option Elab.async false
set_option linter.all false
set_option maxRecDepth 100000
set_option maxHeartbeats 4000000
/-! DL110: t.split(s); int(text); figures read. -/
namespace DL
open PySem PySem.Spec PyProof.Rows L2
variable [TabsC]
section
variable {X : Cx} {W : WX} {o e : Expr} {ba bb : Bool} {ma mb : TM} {pos apos : Pos}
def mSplit (ma mb : TM) : TM := fun δ Q E => ma δ (fun d => ∃ a, d = .str a ∧ mb δ (fun f => ∃ b, f = .str b ∧ (b.length == 0) = false ∧ a.length + 2 ≤ sizeLine ∧ Q (.list ((Txt.split a b).map .str))) E) E
end
/-! ### figures -/
end DL
set_option Elab.async false
set_option linter.all false
set_option maxRecDepth 100000
set_option maxHeartbeats 4000000
/-! DL111: enumerate of a list; parts of texts. -/
namespace DL
open PySem PySem.Spec PyProof.Rows L2
variable [TabsC]
section
variable {X : Cx} {W : WX} {e : Expr} {ba : Bool} {la : LM} {ma : TM} {p pos : Pos}
def mEnumL (la : LM) : LM := fun δ P E => la δ (fun ds => ∃ xs, ds = [.list xs] ∧ P (enumD xs)) E
theorem itok_enumL {K : PySem.W.Frag} {Hg Hb : Hp} {a : Addr} {xs : List V} {ds : List D} (h : Hg a = some (.lst xs)) (hz : xs.length ≤ sizeLine) (r : Reps K Hb xs ds) : ItOk K (Ite K a) Hg Hb (enumD ds) where
  sz := by rw [enumD_len, ← r.length]; exact hz
  go := fun i H s hi => by
    rw [enumD_len, ← r.length] at hi
    exact ⟨xs, xs[i], .of (s _ _ h), List.getElem?_eq_getElem hi⟩
  stop := fun i H s hi => by
    rw [enumD_len, ← r.length] at hi
    exact ⟨xs, .of (s _ _ h), Nat.le_of_eq hi.symm⟩
  yld := fun i H x H' ls s sb ht hi ⟨T, v, ev, hT, eH, k1⟩ => by
    subst ev eH
    obtain ⟨d, e1, r1⟩ := r.get (k1 xs (.of (s _ _ h)))
    exact ⟨_, enumD_get e1, same_upd hT, new_tup ht hT (by show 2 ≤ sizeLine; rw [sizeLine_eq]; decide) (.cons (.int _) (.cons (r1.mono sb) .nil))⟩
theorem di_enumL {elts : List Expr} {kk : Nat} {tpos : Pos} (hg : Gl X "enumerate") (hm : X.mg "enumerate" = none) (ha : DA X W [e] ba la) (hs : starEach [e] X.env = [(false, eval e X.env)] := by rfl) :
    DI X W (.Tuple elts kk tpos) (.Call (.Name "enumerate" p) [e] [] pos) ba (mEnumL la) :=
  PI.imp (pi_enum hg hm ha hs) fun σ H R ⟨F, own, δ, P, EK, A, m, q⟩ => ⟨F, own, δ, _, EK, A, m, fun ds vs H1 ⟨xs, ed, pq⟩ s r => by
    subst ed
    cases r with
    | cons r1 r =>
      cases r
      obtain ⟨a, us, rfl, h1, h2, h3⟩ := flo_list r1
      exact ⟨a, us, rfl, .of (flo_le _ _ h1), q _ _ H1 pq s (itok_enumL h1 h2 h3)⟩⟩
def mSliceS (ma : TM) (ml mu : OM) : TM := fun δ Q E => ma δ (fun d => ml δ (fun lo => mu δ (fun hi => ∃ z, d = .str z ∧ z.length ≤ sizeLine ∧ Q (.str (cutS z lo hi))) E) E) E
end
end DL
set_option Elab.async false
set_option linter.all false
set_option maxRecDepth 100000
set_option maxHeartbeats 4000000
/-! DL112: texts compared; words of a line. -/
namespace DL
open PySem PySem.Spec PyProof.Rows L2
end DL
set_option Elab.async false
set_option linter.all false
set_option maxRecDepth 100000
set_option maxHeartbeats 4000000
/-! DL113: xs != [] of any list. -/
namespace DL
open PySem PySem.Spec PyProof.Rows L2
end DL
set_option Elab.async false
set_option linter.all false
set_option maxRecDepth 100000
set_option maxHeartbeats 4000000
/-! DL114: classes with one slot: reading it, methods, properties, making. -/
namespace DL
open PySem PySem.Spec PyProof.Rows L2
variable [TabsC]
/-- what plain data may rest on -/
def seqO : HO → Bool
  | .lst _ => true
  | .tup _ => true
  | .frz _ _ => true
  | _ => false
mutual
theorem Rep.py_mono {K : PySem.W.Frag} {H H' : Hp} (e : ∀ b o, H b = some o → seqO o = true → H' b = some o) : ∀ {v : V} {d : D}, Rep K H v d → d.isPy = true → Rep K H' v d
  | _, _, .non, _ => .non
  | _, _, .bool b, _ => .bool b
  | _, _, .int i, _ => .int i
  | _, _, .str x, _ => .str x
  | _, _, .list h l r, p => .list (e _ _ h rfl) l (Reps.py_mono e r (by simpa [D.isPy] using p))
  | _, _, .tup h l r, p => .tup (by
      rcases h with (h | ⟨o, h⟩) | h
      · exact .inl (.inl (e _ _ h rfl))
      · exact .inl (.inr ⟨o, e _ _ h rfl⟩)
      · exact .inr h) l (Reps.py_mono e r (by simpa [D.isPy] using p))
  | _, _, .dict h l r, p => .dict (e _ _ h rfl) l (RepKs.py_mono e r (by simpa [D.isPy] using p))
  | _, _, .obj _ _ _, p => by simp [D.isPy] at p
  | _, _, .dice _, p => by simp [D.isPy] at p
  | _, _, .script _ _, p => by simp [D.isPy] at p
  | _, _, .tdict _ _ _ _, p => by simp [D.isPy] at p
  | _, _, .opq _, p => by simp [D.isPy] at p
  | _, _, .ty _, p => by simp [D.isPy] at p
  | _, _, .fn _, p => by simp [D.isPy] at p
  | _, _, .exc _ _ _, p => by simp [D.isPy] at p
  | _, _, .sob _ _ _ _, p => by simp [D.isPy] at p
theorem Reps.py_mono {K : PySem.W.Frag} {H H' : Hp} (e : ∀ b o, H b = some o → seqO o = true → H' b = some o) : ∀ {vs : List V} {ds : List D}, Reps K H vs ds → D.arePy ds = true → Reps K H' vs ds
  | _, _, .nil, _ => .nil
  | _, _, .cons r t, p => by
    have p' : _ = true ∧ _ = true := (by simpa [D.arePy] using p : D.isPy _ = true ∧ D.arePy _ = true)
    exact .cons (Rep.py_mono e r p'.1) (Reps.py_mono e t p'.2)
theorem RepKs.py_mono {K : PySem.W.Frag} {H H' : Hp} (e : ∀ b o, H b = some o → seqO o = true → H' b = some o) : ∀ {vs : List (Key × V)} {ds : List (Key × D)}, RepKs K H vs ds → D.areKs ds = true → RepKs K H' vs ds
  | _, _, .nil, _ => .nil
  | _, _, .cons r t, p => by
    have p' : _ = true ∧ _ = true := (by simpa [D.areKs] using p : D.isPy _ = true ∧ D.areKs _ = true)
    exact .cons (Rep.py_mono e r p'.1) (RepKs.py_mono e t p'.2)
end
theorem execs_app (l rest : List Stmt) (env : Env) : execs (l ++ rest) env = (execs l env).bind fun f => match f with | .next => execs rest env | f => .pure f := by
  induction l with
  | nil => rfl
  | cons s l ih =>
    show (exec s env).bind (fun f => match f with | .next => execs (l ++ rest) env | f => .pure f) = ((exec s env).bind fun f => match f with | .next => execs l env | f => .pure f).bind _
    rw [Sem.bind_assoc]
    refine congrArg _ (funext fun f => ?_)
    cases f <;> first | exact ih | rfl
theorem pss_app {X : Cx} {a b : List Stmt} {t u : TS} (h1 : PSs X a t) (h2 : PSs X b u) : PSs X (a ++ b) (tSeq t u) := by
  refine ⟨fun pins s σ H D I h => ?_⟩
  rw [execs_app]
  refine wpAny_bind (thn (h1.run pins s σ H { D with nx := u D } I h) fun f s1 q => ?_)
  cases f with
  | next =>
    obtain ⟨σ', H', I', q⟩ := q
    exact h2.run pins s1 σ' H' D I' q
  | ret v => exact wpAny_pure q
  | brk => exact wpAny_pure q
  | cont => exact wpAny_pure q
theorem RV.sob {K : PySem.W.Frag} {fo ls : List Addr} {H : Hp} {b : Bool} {v : V} {n : Str} {d : D} (r : RV K fo ls H b v (.sob n d)) :
    ∃ C a dx w, PySem.W.nsIn K mainGlobals n = some (some (.ref C)) ∧ v = .ref a ∧ SlX.Slt H a C dx [some w] ∧ Rep K (sub H ls) w d := by
  cases r with
  | cl r =>
    cases r with
    | sob c h k r => exact ⟨_, _, _, _, c, rfl, .inr ⟨sub_le _ _ h, sub_le _ _ k⟩, r⟩
section
variable {X : Cx} {W : WX} {a b c e e2 o : Expr} {es : List Expr} {ba bb : Bool} {ma mb mo : TM} {la : LM} {pos p apos : Pos} {n f mn x : Str} {k : Nat} {C g q0 : Addr} {m : FM}
/-! ### e.f -/
def mSl (n : Str) (ma : TM) : TM := fun δ Q E => ma δ (fun d => ∃ v : D, d = .sob n v ∧ Q v) E
/-! ### o.m(e, ..) -/
def mMethS (n : Str) (m : FM) (mo : TM) (la : LM) : TM := fun δ Q E => mo δ (fun d => ∃ v : D, d = .sob n v ∧ la δ (fun ds => m (d :: ds) Q E) E) E
def mMethS0 (n : Str) (m : FM) (mo : TM) : TM := fun δ Q E => mo δ (fun d => ∃ v : D, d = .sob n v ∧ m [d] Q E) E
/-! ### e.f, a property -/
def mPropS (n : Str) (m : FM) (ma : TM) : TM := fun δ Q E => ma δ (fun d => ∃ v : D, d = .sob n v ∧ m [d] Q NoE) E
end
end DL
set_option Elab.async false
set_option linter.all false
set_option maxRecDepth 100000
set_option maxHeartbeats 4000000
/-! DL115: making instances of a class with one slot, which its __init__ writes last. -/
namespace DL
open PySem PySem.Spec PyProof.Rows L2
variable [TabsC]
def spI (K : PySem.W.Frag) (n : Str) (m : FM) : Sp := fun vs H Q E => ∃ (fo : List Addr) (x C dx : Addr) (ws : List V) (ds : List D) (P : D → Prop) (EK : Er → Prop), vs = .ref x :: ws ∧ x ∉ fo ∧ (∀ l, l ∈ fo → ∃ o, H l = some o ∧ Plain o) ∧ LamX.Tabs TabsC.T H ∧
  PySem.W.nsIn K mainGlobals n = some (some (.ref C)) ∧ H x = some (.ins C dx []) ∧ Reps K (sub H fo) ws ds ∧ m ds P EK ∧
  (∀ d v H', P d → d.isPy = true → Same H H' → Rep K (sub H' fo) v d → Q .non (SlX.slH H' x C dx [some v])) ∧
  (∀ er cls dd H', EK er → Same H H' → RepEr K fo H' cls dd er → E cls dd H')
abbrev FnI' (P : Program) (w : World) (K : PySem.W.Frag) (mg : Str → Option Value) (base : Heap) (k : Nat) (f : Addr) (n : Str) (m : FM) : Prop := FnP P w K mg base k f (spI K n m)
def kI (x : Addr) (Hc : Hp) (ma : TM) (P : D → Prop) (EK : Er → Prop) : KD := ⟨fun δ => ma δ (fun d => δ[0]? = some (.v (.opq x Hc)) ∧ d.isPy = true ∧ P d) EK, fun _ _ => False, fun _ => False, fun _ => False, fun _ er => EK er⟩
def mFunI (np n : Nat) (m : SM) (ma : TM) : FM := fun ds P EK => ds.length + 1 = np ∧ ∀ x Hc, m (startD n (.opq x Hc :: ds)) (kI x Hc ma P EK)
def mFunIS (n : Nat) (m : SM) (ma : TM) : FM := fun ds P EK => ds.length ≤ sizeLine ∧ ∀ x Hc, m (startD n [.opq x Hc, .tup ds]) (kI x Hc ma P EK)
theorem FnI'.imp {P : Program} {w : World} {K : PySem.W.Frag} {mg : Str → Option Value} {base : Heap} {k : Nat} {f : Addr} {n : Str} {m m' : FM} (F : FnI' P w K mg base k f n m) (h : ∀ ds Q E, m' ds Q E → m ds Q E) : FnI' P w K mg base k f n m' :=
  fun A outer s H us vs Q E hG hr e r ⟨fo, x, C, dx, ws, ds, P, EK, ev, hx, t, tb, hn, ha, rs, m, q⟩ => F A outer s H us vs Q E hG hr e r ⟨fo, x, C, dx, ws, ds, P, EK, ev, hx, t, tb, hn, ha, rs, h _ _ _ m, q⟩
def lastOf (st : Stmt) : Stmt := (defBody st).getLastD (.Pass ⟨0, 0, 0, 0⟩)
def initOf (st : Stmt) : List Stmt := (defBody st).dropLast
section
variable {P : Program} {w : World} {K : PySem.W.Frag} {mg : Str → Option Value} {base : Heap} {x qual pv : Str} {st : Stmt} {f C q0 : Addr} {fd : FuncData} {N ps : List Str} {k : Nat} {m : SM} {ma : TM} {n fl : Str}
/-- what such a body keeps -/
theorem bodyI {cx : Cx} {E : XK} {H : Hp} {Q : VK} {np : Nat} {vs : List V} {Nn : List Str} (hK : cx.K = K) (hC : PySem.W.nsIn K mainGlobals n = some (some (.ref C))) (cl : SlX.SCls K C) (t : SlX.Slot1 K C fl q0 0) {slf : Str} {p p' pos : Pos} {value : Expr} {init : List Stmt}
    (hi : PSs cx init (ts K (Wof E) m)) (hv : PE cx value (tm K (Wof E) false ma)) (hs : PE cx (.Name slf p) (tVar 0)) (hw : swapsWith value (some (.Attribute (.Name slf p) fl p')) pos.line cx.env = pure false)
    (h : spI K n (fun ds P EK => ds.length + 1 = np ∧ ∀ x Hc, m (startD Nn.length (.opq x Hc :: ds)) (kI x Hc ma P EK)) vs H Q E) :
    ∃ tt, PSs cx (init ++ [.Assign [.Attribute (.Name slf p) fl p'] value pos]) tt ∧ tt { nx := fun _ H' => Q .non H', rt := Q } (L2.start Nn vs) H := by
  subst hK
  obtain ⟨fo, x, C', dx, ws, ds, PQ, EK, rfl, hx, ht, tb, hn, ha, rs, ⟨hl, hm⟩, hq, he⟩ := h
  rw [hC] at hn
  cases hn
  have le : ∀ {H' : Hp} {own : List Addr}, Grow (sub H' (fo ++ own)) (sub H' fo) := sub_less fun a h => List.mem_append_left _ h
  have here : sub H fo x = some (.ins C dx []) := by rw [sub_out hx]; exact ha
  refine ⟨_, pss_app hi (pss_one (SlX.ps_sl hs hv hw)), ⟨fo, H, sub H fo⟩, [], startD Nn.length (.opq x (sub H fo) :: ds), _, env_start ht tb (.cons (.opq (Grow.refl _)) rs), hm x (sub H fo), ?_⟩
  refine ⟨fun σ H' own δ E' q => ?_, fun _ _ _ _ _ _ _ _ q => q.elim, fun _ _ _ _ _ q => q.elim, fun _ _ _ _ _ q => q.elim, fun er cls dd σ H' own δ E' q r' => he er cls dd H' q E'.same (r'.less fun a h => List.mem_append_left _ h)⟩
  refine ⟨⟨fo, H, sub H fo⟩, own, δ, _, EK, ⟨E', fun er cls dd H'' ke s2 r2 => he er cls dd H'' ke (E'.same.trans s2) (r2.less fun a h => List.mem_append_left _ h)⟩, q, fun d y H1 ⟨h0, hp, pd⟩ s1 r1 => ?_⟩
  obtain ⟨sv, at0, v, rfl, rv⟩ := (E'.grow s1).slot 0 _ h0
  cases rv with
  | opq gr =>
  have hx1 : H1 x = some (.ins C dx []) := sub_le _ _ (gr _ _ here) 
  exact ⟨_, at0, x, C, dx, q0, [], 0, rfl, .inl ⟨hx1, rfl⟩, cl, t, hq d y H1 pd hp (E'.same.trans s1) (r1.clean.mono le)⟩
theorem fnI_star {p0 : Str} (F : Fun K x qual st f fd) (S : FnScope N ([p0] ++ [pv]) (defScope st)) (hb : ∀ us rest : List Value, us.length = [p0].length → bindArgs fd ⟨us ++ rest, []⟩ = (newTuple rest >>= fun t => pure ([p0].zip us ++ [(pv, t)])))
    (hC : PySem.W.nsIn K mainGlobals n = some (some (.ref C))) (cl : SlX.SCls K C) (t : SlX.Slot1 K C fl q0 0) (hst : defBody st = initOf st ++ [lastOf st])
    (hbody : ∀ (cdv : Value) (A : Around) (outer : List Env) (s : Shared) (H : Hp) (E : XK), GdOk A base → Room k (A.deeper (envOfC qual (defScope st) s.heap.objs.size f cdv)) →
      ∃ (slf : Str) (p p' pos : Pos) (value : Expr), lastOf st = .Assign [.Attribute (.Name slf p) fl p'] value pos ∧ DSs (cxOf (L2.CX P w) P w K mg base N qual (defScope st) f cdv A outer s H E) (Wof E) (initOf st) m ∧
        DE (cxOf (L2.CX P w) P w K mg base N qual (defScope st) f cdv A outer s H E) (Wof E) value false ma ∧ PE (cxOf (L2.CX P w) P w K mg base N qual (defScope st) f cdv A outer s H E) (.Name slf p) (tVar 0) ∧
        swapsWith value (some (.Attribute (.Name slf p) fl p')) pos.line (cxOf (L2.CX P w) P w K mg base N qual (defScope st) f cdv A outer s H E).env = pure false) : FnI' P w K mg base (k + 1) f n (mFunIS N.length m ma) := by
  refine fnP_star F S (sb := spI K n (mFunI 2 N.length m ma)) hb (fun vs H Q E h => ?_) fun cdv A outer s H vs Q E hG hr h => ?_
  · obtain ⟨fo, x, C, dx, ws, ds, PQ, EK, rfl, hx, ht, tb, hn, ha, rs, ⟨h1, hm⟩, hq, he⟩ := h
    have lv := rs.length
    refine ⟨[.ref x], ws, rfl, rfl, by omega, fun p hp => ?_⟩
    have g := (sub_same (ls := fo) (same_upd (o := .tup ws) hp).ob)
    have np : p ∉ fo := fun z => by
      obtain ⟨o, e, nn⟩ := ht p z
      rw [hp] at e; cases e
    refine ⟨fo, x, C, dx, [.ref p], [.tup ds], PQ, EK, rfl, hx, fun l hl => ?_, (same_upd hp).tb tb, hn, by rw [upd_ne (ne_of_none ha hp)]; exact ha, .cons (.tup (.of (by rw [sub_out np]; exact upd_same)) (by omega) (rs.mono g)) .nil, ⟨rfl, hm⟩, fun d v H' pd py s => hq d v H' pd py ((same_upd hp).trans s), fun er cls dd H' pd s => he er cls dd H' pd ((same_upd hp).trans s)⟩
    obtain ⟨o, e, nn⟩ := ht l hl
    exact ⟨o, by rw [upd_ne (ne_of_none e hp)]; exact e, nn⟩
  · obtain ⟨slf, p, p', pos, value, e1, hi, hv, hs, hw⟩ := hbody cdv A outer s H E hG hr
    rw [hst, e1]
    exact bodyI (Nn := N) rfl hC cl t hi hv hs hw h
end
section
variable {X : Cx} {W : WX} {e : Expr} {es : List Expr} {ba : Bool} {ma : TM} {la : LM} {mi : FM} {pos p sp : Pos} {n : Str} {k : Nat} {C f0 : Addr}
/-! ### C(e, ..) -/
def mMakeI (n : Str) (m : FM) (la : LM) : TM := fun δ Q E => la δ (fun ds => m ds (fun d => Q (.sob n d)) E) E
theorem makeI_sp {σ : L2.St} {H H1 : Hp} {F : Fm} {own : List Addr} {δ : List DV} {P : D → Prop} {EK : Er → Prop} {vs : List V} {ds : List D} {Q : VK} (hC : PySem.W.nsIn X.K mainGlobals n = some (some (.ref C))) (A : At X.K W σ H F own δ EK) (s01 : Same H H1) (rr : Reps X.K (sub H1 (F.ls0 ++ own)) vs ds)
    (m1 : mi ds (fun d => P (.sob n d)) EK) (q : ∀ d v H', P d → Same H H' → RV X.K F.ls0 (F.ls0 ++ own) H' false v d → Q v H') :
    ∀ x dx, H1 x = none → H1 dx = none → dx ≠ x → spI X.K n mi (V.ref x :: vs) (upd (upd H1 dx (.own x)) x (.ins C dx [])) (fun v H2 => v = .non ∧ Q (.ref x) H2) (fun cls dd H' => W cls dd σ H') := by
  intro x dx nx nd ne
  have A1 := A.on s01
  obtain ⟨sa, _⟩ := new_ins (K := X.K) (C := C) nx nd ne A1.env.trk
  have out : ∀ {b : Addr}, H1 b = none → b ∉ F.ls0 ++ own := fun {b} hb z => by
    obtain ⟨o, e, _⟩ := A1.env.trk b z
    rw [hb] at e
    cases e
  have hdx : upd (upd H1 dx (.own x)) x (.ins C dx []) dx = some (.own x) := by rw [upd_ne ne, upd_same]
  refine ⟨F.ls0 ++ own, x, C, dx, vs, ds, _, EK, rfl, out nx, fun l hl => ?_, sa.tb A1.tabs, hC, upd_same, rr.mono (sub_same sa.ob), m1, fun d v H' pd py s r => ⟨rfl, ?_⟩, fun er cls dd H' ke s re => A1.pass er cls dd H' ke (sa.trans s) re⟩
  · obtain ⟨o, e, nn⟩ := A1.env.trk l hl
    exact ⟨o, sa.ob.get l o e nn.1, nn⟩
  have hx' : H' x = some (.ins C dx []) := s _ _ upd_same
  have hd' : H' dx = some (.own x) := s _ _ hdx
  have s1 : Same H1 H' := sa.trans s
  have s2 : Same H1 (SlX.slH H' x C dx [some v]) := by
    unfold SlX.slH
    refine Same.put (o := .ins C dx []) (Same.put (o := .own x) s1 nd hd') nx ?_
    rw [upd_ne (fun z => ne z.symm)]
    exact hx'
  refine q (.sob n d) (.ref x) _ pd (s01.trans s2) (.cl (.sob hC (dx := dx) (v := v) ?_ ?_ ?_))
  · rw [sub_out (out nx)]
    unfold SlX.slH
    exact upd_same
  · rw [sub_out (out nd)]
    unfold SlX.slH
    rw [upd_ne ne, upd_same]
  · refine Rep.py_mono (fun b o hb ho => ?_) r py
    by_cases hin : b ∈ F.ls0 ++ own
    · rw [sub_in hin] at hb
      cases hb
    rw [sub_out hin] at hb ⊢
    have b1 : b ≠ x := fun z => by rw [z, hx'] at hb; cases hb; cases ho
    have b2 : b ≠ dx := fun z => by rw [z, hd'] at hb; cases hb; cases ho
    rw [SlX.slH_ne b1 b2]
    exact hb
/-- C(*e) -/
def mMakeIS (n : Str) (m : FM) (ma : TM) : TM := fun δ Q E => ma δ (fun d => ∃ ds, (d = .tup ds ∨ d = .list ds) ∧ m ds (fun d => Q (.sob n d)) E) E
theorem de_makeIS (hC : PySem.W.nsIn X.K mainGlobals n = some (some (.ref C))) (M : Mk X.K C f0) (F : FnI' X.prog X.w X.K X.mg X.base k f0 n mi) (hG : GdOk X.A X.base) (hr : Room (k + 1) X.A) (tk : Takes X W) (hg : Gl X n) (gC : X.mg n = some (.ref C)) (he : DE X W e ba ma) (hdb : (n == ("__debug__" : Str)) = false := by decide)
    (hst : starEach [.Starred e sp] X.env = [(true, eval e X.env)] := by rfl) : DE X W (.Call (.Name n p) [.Starred e sp] [] pos) false (mMakeIS n mi ma) := by
  refine ⟨fun pins s σ H Q I ⟨FF, own, δ, P, EK, A, m, q⟩ => ?_⟩
  refine wpAny_Call_Name_kw (ld_glob I hg gC ?_ hdb)
  refine PySem.W.callWith_S (h₀ := X.base) I.ok.mod.kin M.kp (thn (he.run pins s σ H (fun y H1 => ∃ a xs ds, y = V.ref a ∧ (SqT X.K H1 a xs ∨ SqL X.K H1 a xs) ∧ mi ds (fun d => P (.sob n d)) EK ∧ Same H H1 ∧ Reps X.K (sub H1 (FF.ls0 ++ own)) xs ds) I
    ⟨FF, own, δ, _, EK, A, m, fun d v H1 ⟨ds, ed, m1⟩ s1 r1 => ?_⟩) fun u s1 ⟨y, H1, I1, ry, a, xs, ds, ey, hxs, m1, s01, rr⟩ => ?_) hst
  · rcases ed with rfl | rfl
    · obtain ⟨a, xs, rfl, h1, h2, h3⟩ := r1.tup
      exact ⟨a, xs, ds, rfl, .inl h1, m1, s1, h3⟩
    · obtain ⟨a, xs, rfl, h1, h2, h3⟩ := r1.list
      exact ⟨a, xs, ds, rfl, .inr (.of h1), m1, s1, h3⟩
  · subst ey
    obtain rfl : u = Value.ref a := ry
    exact StX.star_any I1 hxs fun us s2 I2 rv => ⟨I2.kIn, run_new M F hG hr tk (E := fun cls dd H' => W cls dd σ H') (fun _ _ _ h => h) I2 rv (makeI_sp hC A s01 rr m1 q)⟩
end
end DL
set_option Elab.async false
set_option linter.all false
set_option maxRecDepth 100000
set_option maxHeartbeats 4000000
/-! DL116: C(*a, *b); isinstance, ==, in, len, str of instances with one slot. -/
namespace DL
open PySem PySem.Spec PyProof.Rows L2
variable [TabsC]
/-! ### the kind of a value, instances with slots among them -/
def TyS (K : PySem.W.Frag) (H : Hp) (x : V) (t : Value) : Prop := TyX K H x t ∨ ∃ a C dx vs, x = .ref a ∧ t = .ref C ∧ SlX.Slt H a C dx vs ∧ SlX.SCls K C ∧ SlX.SIsi K C
theorem kit_ofS {X : Cx} {pins : List (Addr × Obj)} {σ : L2.St} {H : Hp} {s : Shared} {x : V} {u t : Value} (I : Inv X pins σ H s) (rx : RelV x u) (ty : TyS X.K H x t) : ∃ P : Heap → Prop, PySem.W.KitX X.K u t P ∧ P s.heap ∧ u ≠ .builtin "__main__.__loader__#opaque" := by
  rcases ty with ty | ⟨a, C, dx, vs, rfl, rfl, hs, hc, hi⟩
  · exact kit_of I rx ty
  · obtain rfl : u = Value.ref a := rx
    obtain ⟨sl, od, _, J, _⟩ := SlX.slt_inst I hs
    exact ⟨_, OwX.kitx_slt hc.ic (hc.get _) hi.ca hi.cn hi.ct hi.cm, J, fun z => nomatch z⟩
def rIsiS (K : PySem.W.Frag) : List V → Hp → VK → Prop := fun xs H Q => ∃ (x c : V) (t u : Value) (b : Bool), xs = [x, c] ∧ ClsV c u ∧ TyS K H x t ∧ PySem.W.kitOne K t u = some b ∧ Q (.bl b) H
theorem call_isiS {X : Cx} : CallR X (.builtin "isinstance") (rIsiS X.K) := by
  intro pins s σ H xs us Q I r h
  obtain ⟨x, c, t, u, b, rfl, k, ty, e, q⟩ := h
  obtain ⟨u1, u2, rfl, r1, r2⟩ := vals2 r
  have e2 := k.eq r2
  subst e2
  obtain ⟨P, Z, p, hx⟩ := kit_ofS I r1 ty
  exact PySem.W.kia_one Z I.kIn p e hx fun tk => ⟨.bl b, H, I.tok tk, rfl, q⟩
def okX (owns sls : List Str) (d : D) : Prop := okB owns d ∨ ∃ m v, d = .sob m v ∧ m ∈ sls
def isCX (n : Str) : D → Bool
  | .obj m _ => decide (m = n)
  | .sob m _ => decide (m = n)
  | _ => false
def fIsiX (owns sls : List Str) (n : Str) (d : D) (Q : D → Prop) : Prop := okX owns sls d ∧ Q (.bool (isCX n d))
def mIsiX (owns sls : List Str) (n : Str) (ma : TM) : TM := fun δ Q E => ma δ (fun d => fIsiX owns sls n d Q) E
structure KitSl (K : PySem.W.Frag) (owns sls : List Str) : Prop where
  two : ∀ (m n : Str) (Cm Cn : Addr), m ∈ owns ++ sls → n ∈ owns ++ sls → PySem.W.nsIn K mainGlobals m = some (some (.ref Cm)) → PySem.W.nsIn K mainGlobals n = some (some (.ref Cn)) → PySem.W.kitOne K (.ref Cm) (.ref Cn) = some (decide (m = n))
  ins : ∀ (m : Str) (Cm : Addr), m ∈ owns → PySem.W.nsIn K mainGlobals m = some (some (.ref Cm)) → InsTy K Cm
  sl : ∀ (m : Str) (Cm : Addr), m ∈ sls → PySem.W.nsIn K mainGlobals m = some (some (.ref Cm)) → SlX.SCls K Cm ∧ SlX.SIsi K Cm
theorem tyS_of {K : PySem.W.Frag} {fo ls : List Addr} {H : Hp} {y : V} {d : D} {owns sls : List Str} (ik : KitSl K owns sls) {bb : Bool} (r : RV K fo ls H bb y d) (ok : okX owns sls d) : (∃ t, d.tyn = some t ∧ TyS K H y (.type t)) ∨ ∃ m C, ((∃ fs, d = .obj m fs) ∨ ∃ v, d = .sob m v) ∧ m ∈ owns ++ sls ∧ PySem.W.nsIn K mainGlobals m = some (some (.ref C)) ∧ TyS K H y (.ref C) := by
  rcases ok with (hd | ⟨m', fs, rfl, hm'⟩) | ⟨m', v, rfl, hm'⟩
  · obtain ⟨t, ht⟩ := Option.isSome_iff_exists.mp hd
    exact .inl ⟨t, ht, .inl (tyx_rv r ht)⟩
  · obtain ⟨C', a, dx, vs, hC', rfl, h1, h2⟩ := r.obj
    have T := ik.ins m' C' hm' hC'
    exact .inr ⟨m', C', .inl ⟨_, rfl⟩, List.mem_append_left _ hm', hC', .inl (.base (.ins h1 T.cl T.fc T.sg T.tk T.mo))⟩
  · obtain ⟨C', a, dx, w, hC', rfl, h1, h2⟩ := r.sob
    have T := ik.sl m' C' hm' hC'
    exact .inr ⟨m', C', .inr ⟨_, rfl⟩, List.mem_append_right _ hm', hC', .inr ⟨a, C', dx, _, rfl, rfl, h1, T.1, T.2⟩⟩
section
variable {X : Cx} {W : WX} {a : Expr} {ba : Bool} {ma : TM} {n : Str} {C : Addr} {pos p p2 : Pos} {owns sls : List Str}
theorem de_isiX (hC : PySem.W.nsIn X.K mainGlobals n = some (some (.ref C))) (gC : X.mg n = some (.ref C)) (hcn : Gl X n) (hdb : (n == ("__debug__" : Str)) = false) (hk : kitAll X.K C = true) (ho : KitSl X.K owns sls) (hin : n ∈ owns ++ sls) (hg : Gl X "isinstance") (hm : X.mg "isinstance" = none) (ha : DE X W a ba ma)
    (hs : starEach [a, .Name n p2] X.env = (false, eval a X.env) :: starEach [.Name n p2] X.env := by rfl) (hs2 : starEach [.Name n p2] X.env = (false, eval (.Name n p2) X.env) :: starEach [] X.env := by rfl) (hpl : (backTo pos (starEach [.Name n p2] X.env)).any (·.1) = false := by rfl) :
    DE X W (.Call (.Name "isinstance" p) [a, .Name n p2] [] pos) false (mIsiX owns sls n ma) :=
  PE.imp (pe_callB call_isiS hg hm (by decide +kernel) (pa_cons ha (pa_cons (pe_glob (v := .ref C) hcn gC rfl (hd := hdb)) pa_nil hs2) hs) (by decide) (by decide) hs hpl) fun σ H Q ⟨F, own, δ, P, EK, A, m, q⟩ => ⟨F, own, δ, _, EK, A, m, fun d v H1 ⟨hd, m1⟩ s1 r1 => by
    have fin : ∀ t, TyS X.K H1 v t → PySem.W.kitOne X.K t (.ref C) = some (isCX n d) → rIsiS X.K [v, V.ref C] H1 Q := fun t ty hk => ⟨v, .ref C, t, .ref C, _, rfl, .own C, ty, hk, q _ _ H1 m1 s1 (.cl (.bool _))⟩
    rcases tyS_of ho r1 hd with ⟨t, ht, ty⟩ | ⟨m', C', hm, hin', hC', ty⟩
    · refine fin (.type t) ty ?_
      have z := of_decide_eq_true (List.all_eq_true.mp hk t (tyn_mem ht))
      rw [z]
      cases d <;> cases ht <;> rfl
    · refine fin (.ref C') ty ?_
      rw [ho.two m' n C' C hin' hin hC' hC]
      rcases hm with ⟨_, rfl⟩ | ⟨_, rfl⟩ <;> rfl⟩
end
section
variable {X : Cx} {W : WX} {a b e : Expr} {ba bb : Bool} {ma mb : TM} {n : Str} {C g : Addr} {k : Nat} {m : FM} {pos p : Pos} {owns sls : List Str} {FF : Fm} {own : List Addr}
def mEqS (n : Str) (owns sls : List Str) (neg : Bool) (m : FM) (ma mb : TM) : TM := fun δ Q E => ma δ (fun a => mb δ (fun b => ∃ v : D, a = .sob n v ∧ okX owns sls b ∧ m [a, b] (fun r => ∃ c, r = .bool c ∧ Q (.bool (neg ^^ c))) NoE) E) E
def mInS (n : Str) (neg : Bool) (m : FM) (ma mb : TM) : TM := fun δ Q E => ma δ (fun a => mb δ (fun b => ∃ fs : D, b = .sob n fs ∧ m [b, a] (fun r => ∃ c, r = .bool c ∧ Q (.bool (neg ^^ c))) NoE) E) E
def mLenS (n : Str) (m : FM) (ma : TM) : TM := fun δ Q E => ma δ (fun a => ∃ fs : D, a = .sob n fs ∧ m [a] (fun r => ∃ i : Int, r = .int i ∧ 0 ≤ i ∧ i < 2 ^ 62 ∧ Q r) NoE) E
def mStrS (n : Str) (m : FM) (ma : TM) : TM := fun δ Q E => ma δ (fun a => ∃ fs : D, a = .sob n fs ∧ m [a] (fun r => ∃ z, r = .str z ∧ Q r) NoE) E
end
end DL
set_option Elab.async false
set_option linter.all false
set_option maxRecDepth 100000
set_option maxHeartbeats 4000000
/-! DL117: classes with one slot: what of the text they must have; a docstring ahead of a body. -/
namespace DL
open PySem PySem.Spec PyProof.Rows L2
variable [TabsC]
theorem KitSl.of {K : PySem.W.Frag} {owns sls : List Str} (kits : KitOwn K owns) (tbl : List (Str × Addr)) (h1 : owns ++ sls = tbl.map (·.1)) (hns : ∀ p ∈ tbl, PySem.W.nsIn K mainGlobals p.1 = some (some (.ref p.2)))
    (h2 : (tbl.all fun p => tbl.all fun q => decide (PySem.W.kitOne K (.ref p.2) (.ref q.2) = some (decide (p.1 = q.1)))) = true)
    (hs : ∀ (m : Str) (Cm : Addr), m ∈ sls → PySem.W.nsIn K mainGlobals m = some (some (.ref Cm)) → SlX.SCls K Cm ∧ SlX.SIsi K Cm) : KitSl K owns sls := by
  refine ⟨fun m n Cm Cn hm hn em en => ?_, kits.ins, hs⟩
  rw [h1] at hm hn
  obtain ⟨p, hp, rfl⟩ := List.mem_map.mp hm
  obtain ⟨q, hq, rfl⟩ := List.mem_map.mp hn
  have ep := hns p hp
  have eq := hns q hq
  rw [ep] at em
  rw [eq] at en
  cases em
  cases en
  exact of_decide_eq_true (List.all_eq_true.mp (List.all_eq_true.mp h2 p hp) q hq)
end DL
set_option Elab.async false
set_option linter.all false
set_option maxRecDepth 100000
set_option maxHeartbeats 4000000
/-! DL118: a dict comprehension with two for-clauses (after HandS.Comp's list with two clauses and HandS.DictComp). -/
namespace DL
open PySem PySem.Spec PyProof.Rows L2
theorem dTurn2_out (kx vx t0 i0 t1 i1 : Expr) (ifs0 ifs1 : List Expr) (scope : Scope) (pos : Pos) (it acc : Value) (env : Env) :
    compTurn (.DictComp kx vx [⟨t0, i0, ifs0, 0⟩, ⟨t1, i1, ifs1, 0⟩] scope pos) 0 it acc env = (do
      standAt i0.pos
      match ← pyNext it with
      | none => pure (.done .next)
      | some v =>
        letOwnedTupleGo t0 it v
        assign t0 env v
        let mut ok := true
        for c in ifs0 do
          if ok then ok ← isTrue c env (eval c env)
        if ok then
          let x ← eval i1 env
          standAt i1.pos
          let x ← foldedSetIterable i1 env x
          let _ ← runOwn (.compStart (.DictComp kx vx [⟨t0, i0, ifs0, 0⟩, ⟨t1, i1, ifs1, 0⟩] scope pos) 1 (← holding [x] (pyIter x)) acc env) env
        again (.compLoop (.DictComp kx vx [⟨t0, i0, ifs0, 0⟩, ⟨t1, i1, ifs1, 0⟩] scope pos) 0 it acc env)) := by rfl
theorem dTurn2_in (kx vx t0 i0 t1 i1 : Expr) (ifs0 ifs1 : List Expr) (scope : Scope) (pos : Pos) (it : Value) (D : Addr) (env : Env) :
    compTurn (.DictComp kx vx [⟨t0, i0, ifs0, 0⟩, ⟨t1, i1, ifs1, 0⟩] scope pos) 1 it (.ref D) env = (do
      standAt i1.pos
      match ← pyNext it with
      | none => pure (.done .next)
      | some v =>
        letOwnedTupleGo t1 it v
        assign t1 env v
        let mut ok := true
        for c in ifs1 do
          if ok then ok ← isTrue c env (eval c env)
        if ok then
          (do
            let kv ← eval kx env
            let vv ← holding [kv] (eval vx env)
            standAt { kx.pos with endLine := vx.pos.endLine, endCol := vx.pos.endCol }
            holding [kv, vv] (dictSet D kv vv))
        again (.compLoop (.DictComp kx vx [⟨t0, i0, ifs0, 0⟩, ⟨t1, i1, ifs1, 0⟩] scope pos) 1 it (.ref D) env)) := by rfl
section
variable {prog : Program} {w : World} {A : Around} {R : Result → Shared → Prop} {s : Shared} {kx vx t0 i0 t1 i1 : Expr} {ifs0 ifs1 : List Expr} {scope : Scope} {pos : Pos} {it acc : Value} {env : Env}
/-- the loop of the first clause -/
theorem dLoop2_out (hs : ∀ x, foldedSetIterable i1 env x = pure x) (I : Nat → Shared → Prop)
    (turn : ∀ n s, I n s → wpAny (model prog w) A (pyNext it) (fun r s₁ => match r with
      | none => R (.ok .next) s₁
      | some v => wpAny (model prog w) A (letOwnedTupleGo t0 it v) (fun _ s₁' => wpAny (model prog w) A (assign t0 env v) (fun _ s₂ =>
          wpAny (model prog w) A (forIn ifs0 true fun c r => if r = true then do let ok ← isTrue c env (eval c env); pure (ForInStep.yield ok) else pure (ForInStep.yield r)) (fun ok s₃ =>
            if ok = true then wpAny (model prog w) A (eval i1 env) (fun x s₄ => wpAny (model prog w) A (pyIter x) (fun it1 s₅ =>
              codeAny (model prog w) A (.compStart (.DictComp kx vx [⟨t0, i0, ifs0, 0⟩, ⟨t1, i1, ifs1, 0⟩] scope pos) 1 it1 acc env) (fun r s' => match r with
                | .ok _ => ∃ m, m < n ∧ I m s'
                | .error _ => False) s₅) (notedBy (model prog w) A env fun e s' => R (.error e) s') s₄) (notedBy (model prog w) A env fun e s' => R (.error e) s') s₃
            else ∃ m, m < n ∧ I m s₃) (notedBy (model prog w) A env fun e s' => R (.error e) s') s₂) (notedBy (model prog w) A env fun e s' => R (.error e) s') s₁') (notedBy (model prog w) A env fun e s' => R (.error e) s') s₁) (notedBy (model prog w) A env fun e s' => R (.error e) s') s)
    (n : Nat) (h : I n s) :
    codeAny (model prog w) A (.compLoop (.DictComp kx vx [⟨t0, i0, ifs0, 0⟩, ⟨t1, i1, ifs1, 0⟩] scope pos) 0 it acc env) R s := by
  refine codeAny_loop rfl I (fun n s hI => ?_) n h
  show wpAny _ A ((compTurn (.DictComp kx vx [⟨t0, i0, ifs0, 0⟩, ⟨t1, i1, ifs1, 0⟩] scope pos) 0 it acc env).onRaise (fun x => do noteFrame x env; theTreesLotGoes x)) _ _ s
  refine wpAny_noted ?_
  rw [dTurn2_out]
  refine wpAny_bind (wpAny_standAt (wpAny_bind (wpAny_mono (turn n s hI) (fun r s₁ h₁ => ?_) fun _ _ h' => h')))
  cases r with
  | none => exact wpAny_pure h₁
  | some v =>
    refine wpAny_bind (wpAny_mono h₁ (fun _ s₁' h₁' => ?_) fun _ _ h' => h')
    refine wpAny_bind (wpAny_mono h₁' (fun _ s₂ h₂ => wpAny_bind (wpAny_mono h₂ (fun ok s₃ h₃ => ?_) fun _ _ h' => h')) fun _ _ h' => h')
    cases ok with
    | false => exact wpAny_pure ⟨rfl, h₃⟩
    | true =>
      refine wpAny_bind (wpAny_mono h₃ (fun x s₄ h₄ => ?_) fun _ _ h' => h')
      refine wpAny_bind (wpAny_standAt (wpAny_bind (wpAny_of_eq (hs x) (wpAny_bind (wpAny_holding (wpAny_mono h₄ (fun it1 s₅ h₅ => ?_) fun _ _ h' => h'))))))
      refine wpAny_bind (wpAny_runOwn ?_)
      rw [Around.mark_none]
      refine codeAny_mono h₅ fun r s' hr => ?_
      cases r with
      | ok f =>
        first
          | exact wpAny_pure ⟨rfl, hr⟩
          | exact wpAny_bind (wpAny_pure (wpAny_pure ⟨rfl, hr⟩))
      | error e => exact hr.elim
/-- the loop of the second -/
theorem dLoop2_in {D : Addr} (I : Nat → Shared → Prop)
    (turn : ∀ n s, I n s → wpAny (model prog w) A (pyNext it) (fun r s₁ => match r with
      | none => R (.ok .next) s₁
      | some v => wpAny (model prog w) A (letOwnedTupleGo t1 it v) (fun _ s₁' => wpAny (model prog w) A (assign t1 env v) (fun _ s₂ =>
          wpAny (model prog w) A (forIn ifs1 true fun c r => if r = true then do let ok ← isTrue c env (eval c env); pure (ForInStep.yield ok) else pure (ForInStep.yield r)) (fun ok s₃ =>
            if ok = true then wpAny (model prog w) A (eval kx env) (fun kv s₄ => wpAny (model prog w) A (eval vx env) (fun vv s₅ =>
              wpAny (model prog w) A (dictSet D kv vv) (fun _ s₆ => ∃ m, m < n ∧ I m s₆) (notedBy (model prog w) A env fun e s' => R (.error e) s') s₅) (notedBy (model prog w) A env fun e s' => R (.error e) s') s₄) (notedBy (model prog w) A env fun e s' => R (.error e) s') s₃
            else ∃ m, m < n ∧ I m s₃) (notedBy (model prog w) A env fun e s' => R (.error e) s') s₂) (notedBy (model prog w) A env fun e s' => R (.error e) s') s₁') (notedBy (model prog w) A env fun e s' => R (.error e) s') s₁) (notedBy (model prog w) A env fun e s' => R (.error e) s') s)
    (n : Nat) (h : I n s) :
    codeAny (model prog w) A (.compLoop (.DictComp kx vx [⟨t0, i0, ifs0, 0⟩, ⟨t1, i1, ifs1, 0⟩] scope pos) 1 it (.ref D) env) R s := by
  refine codeAny_loop rfl I (fun n s hI => ?_) n h
  show wpAny _ A ((compTurn (.DictComp kx vx [⟨t0, i0, ifs0, 0⟩, ⟨t1, i1, ifs1, 0⟩] scope pos) 1 it (.ref D) env).onRaise (fun x => do noteFrame x env; theTreesLotGoes x)) _ _ s
  refine wpAny_noted ?_
  rw [dTurn2_in]
  refine wpAny_bind (wpAny_standAt (wpAny_bind (wpAny_mono (turn n s hI) (fun r s₁ h₁ => ?_) fun _ _ h' => h')))
  cases r with
  | none => exact wpAny_pure h₁
  | some v =>
    refine wpAny_bind (wpAny_mono h₁ (fun _ s₁' h₁' => ?_) fun _ _ h' => h')
    refine wpAny_bind (wpAny_mono h₁' (fun _ s₂ h₂ => wpAny_bind (wpAny_mono h₂ (fun ok s₃ h₃ => ?_) fun _ _ h' => h')) fun _ _ h' => h')
    cases ok with
    | false => exact wpAny_pure ⟨rfl, h₃⟩
    | true =>
      exact wpAny_bind (wpAny_bind (wpAny_mono h₃ (fun kv s₄ h₄ => wpAny_bind (wpAny_holding (wpAny_mono h₄ (fun vv s₅ h₅ => wpAny_bind (wpAny_standAt (wpAny_holding (wpAny_mono h₅ (fun _ s₆ h₆ => wpAny_pure ⟨rfl, h₆⟩) fun _ _ h' => h')))) fun _ _ h' => h'))) fun _ _ h' => h'))
/-- the second clause's start -/
theorem dStart1_ok (h0 : codeAny (model prog w) A (.compLoop (.DictComp kx vx [⟨t0, i0, ifs0, 0⟩, ⟨t1, i1, ifs1, 0⟩] scope pos) 1 it acc env) R s)
    (h : wpAny (model prog w) A (pyIter it) (fun it' s' => codeAny (model prog w) A (.compLoop (.DictComp kx vx [⟨t0, i0, ifs0, 0⟩, ⟨t1, i1, ifs1, 0⟩] scope pos) 1 it' acc env) R s')
      (notedBy (model prog w) A env fun x s' => R (.error x) s') s) :
    codeAny (model prog w) A (.compStart (.DictComp kx vx [⟨t0, i0, ifs0, 0⟩, ⟨t1, i1, ifs1, 0⟩] scope pos) 1 it acc env) R s := by
  refine codeAny_of_tree ?_
  show wpAny _ _ ((compStart (.DictComp kx vx [⟨t0, i0, ifs0, 0⟩, ⟨t1, i1, ifs1, 0⟩] scope pos) 1 it acc env).onRaise (fun x => do noteFrame x env; standAt theWindowsPlace)) _ _ s
  refine wpAny_notedAt ?_
  unfold compStart
  show wpAny _ _ (ask >>= _) _ _ s
  refine wpAny_bind (wpAny_askSetting (wpAny_ite ?_))
  split
  · first
      | exact wpAny_bind (wpAny_pure (wpAny_pure (And.intro rfl h0)))
      | exact wpAny_pure (And.intro rfl h0)
  · first
      | exact wpAny_bind (wpAny_rule (wpAny_bind (wpAny_standAt (wpAny_bind (wpAny_mono h (fun it' s' h' => wpAny_pure (And.intro rfl h')) fun _ _ x => x)))))
      | (refine wpAny_bind (wpAny_rule ?_); show wpAny _ _ (standAt i1.pos >>= _) _ _ s; exact wpAny_bind (wpAny_standAt (wpAny_bind (wpAny_mono h (fun it' s' h' => wpAny_pure (And.intro rfl h')) fun _ _ x => x))))
end
section
variable {X : Cx}
/-- {k: v for tg in iter if .. for tg1 in iter1 if ..}: behind the first clause's store and tests the second source's own loop, from which Nx is reached. vs: the block's names; vs1: those of the second target -/
def tDc2 (wi : TI) (g : TG) (tt : TT) (wi1 : TI) (g1 : TG) (tt1 : TT) (tk tv : TE) (vs vs1 : List Nat) : TE := fun σ H Q => wi σ H fun J H1 => ∀ D, H1 D = none → ∃ W : Nat → Nat → Hp → Prop, (∃ m, W 0 m (upd H1 D (.dK []))) ∧ ∀ i m H, W i m H →
  (J.stop i H ∧ Q (.ref D) H) ∨ (J.go i H ∧ ∃ Nx : Hp → Prop, (∀ H', Nx H' → ∃ m', m' < m ∧ W (i + 1) m' H') ∧ ∀ x H', J.yld i H x H' → g x (L2.wipe σ vs) H' fun σ2 H2 => L2.wipe σ2 vs = L2.wipe σ vs ∧ tt σ2 H2 fun b H3 =>
    if b = true then wi1 σ2 H3 fun J1 H4 => ∃ W1 : Nat → Nat → Hp → Prop, (∃ m, W1 0 m H4) ∧ ∀ j k H, W1 j k H →
      (J1.stop j H ∧ Nx H) ∨ (J1.go j H ∧ ∃ Nx1 : Hp → Prop, (∀ H', Nx1 H' → ∃ k', k' < k ∧ W1 (j + 1) k' H') ∧ ∀ x H', J1.yld j H x H' → g1 x (L2.wipe σ2 vs1) H' fun σ3 H5 => L2.wipe σ3 vs1 = L2.wipe σ2 vs1 ∧ tt1 σ3 H5 fun b H6 =>
        if b = true then tk σ3 H6 fun y H7 => tv σ3 H7 fun z H8 => ∃ kvs k, y = kV k ∧ H8 D = some (.dK kvs) ∧ kvs.length < sizeLine ∧ Nx1 (upd H8 D (.dK (putK kvs k z))) else Nx1 H6)
    else Nx H3)
theorem dc2_core {pins : List (Addr × Obj)} {s : Shared} {σ : L2.St} {H : Hp} {Q : VK} {kx vx tg iter tg1 iter1 : Expr} {ifs ifs1 : List Expr} {scope : Scope} {own : List (Str × Nat)} {vs1 : List Nat} {pos pos' : Pos} {wi wi1 : TI} {g g1 : TG} {tt tt1 : TT} {tk tv : TE} {use : Option (Value → Sem Unit)} {Qf : Value → Shared → Prop}
    (hc : X.calm = true) (hN : X.N.Nodup) (I : Inv X pins σ H s) (hi : PI X tg iter wi) (ok : BlkOk X.N X.env.scope scope own) (hv : ∀ i ∈ vs1, i ∈ own.map (·.2))
    (hg : ∀ (s : Shared) (H : Hp) (C : Addr) (cl : List (Str × Addr)) (fp : List Addr), PG (X.blk s H scope (compEnvC scope cl C X.env) fp) tg g) (ht : ∀ (s : Shared) (H : Hp) (C : Addr) (cl : List (Str × Addr)) (fp : List Addr), PTs (X.blk s H scope (compEnvC scope cl C X.env) fp) ifs tt)
    (hk : ∀ (s : Shared) (H : Hp) (C : Addr) (cl : List (Str × Addr)) (fp : List Addr), PE (X.blk s H scope (compEnvC scope cl C X.env) fp) kx tk) (he : ∀ (s : Shared) (H : Hp) (C : Addr) (cl : List (Str × Addr)) (fp : List Addr), PE (X.blk s H scope (compEnvC scope cl C X.env) fp) vx tv) (hs : ∀ x, foldedSetIterable iter X.env x = pure x)
    (hi1 : ∀ (s : Shared) (H : Hp) (C : Addr) (cl : List (Str × Addr)) (fp : List Addr), PI (X.blk s H scope (compEnvC scope cl C X.env) fp) tg1 iter1 wi1)
    (hg1 : ∀ (s : Shared) (H : Hp) (C : Addr) (cl : List (Str × Addr)) (fp : List Addr), PG (X.blk s H scope (compEnvC scope cl C X.env) fp) tg1 g1)
    (ht1 : ∀ (s : Shared) (H : Hp) (C : Addr) (cl : List (Str × Addr)) (fp : List Addr), PTs (X.blk s H scope (compEnvC scope cl C X.env) fp) ifs1 tt1)
    (hs1 : ∀ env x, foldedSetIterable iter1 env x = pure x)
    (h : tDc2 wi g tt wi1 g1 tt1 tk tv (own.map (·.2)) vs1 σ H Q)
    (hRR : ∀ D C s' m H', Inv X pins σ H' s' → Q (.ref D) H' → s'.heap.Ns C m → FpOk X pins H' C → compPost (model X.prog X.w) X.A X.xe use Qf (.ref D) C (.ok .next) s') :
    wpAny (model X.prog X.w) X.A (comprehension (.DictComp kx vx [⟨tg, iter, ifs, 0⟩, ⟨tg1, iter1, ifs1, 0⟩] scope pos) scope X.env pos' newDict false (eval iter X.env) use) Qf X.xe s := by
  have hfree : ∀ y ∈ scope.names, y.2 = .free → ∃ c, X.env.cells.lookup y.1 = some c := fun y hy e => by
    rcases ok.free y hy e with k | k
    · exact I.ok.has _ (.inl k)
    · exact I.ok.has _ (.inr k)
  refine wpAny_comprehension_free (use := use) rfl hs (closure_ok hfree) ok.kind (fun y hy e => by rw [ok.uniq y hy, e])
    (thn (hi.run pins s σ H _ I h) fun xv s1 hx => thn hx fun itv s2 h2 => ?_)
  obtain ⟨it, fp, tn, J, H2, e, I2, T, st2, f2, q⟩ := h2
  subst e
  refine wpAny_newObj_type (newEnv_comp ?_)
  generalize hD : s2.heap.objs.size = D
  have hDn : H2 D = none := I2.hok.fresh (Nat.le_of_eq hD)
  obtain ⟨W, ⟨m0, w0⟩, turn⟩ := q D hDn
  -- the new list
  generalize hs3 : ({ s2 with heap := s2.heap.push { cls := .type "dict", data := .dict #[] } } : Shared) = s3
  have I3 : Inv X pins σ (upd H2 D (.dK [])) s3 := by
    rw [← hs3]
    refine I2.laid (t' := s2.toks) (fun b o e => Heap.get?_push_of_some _ e) (Nat.le_of_eq hD) ?_
    rw [← hD]
    exact dk_empty s2.heap I2.big
  have h3 : s3.heap = s2.heap.push { cls := .type "dict", data := .dict #[] } := by rw [← hs3]
  have sz : ∀ b ∈ fp, b < s2.heap.objs.size := fun b hb => by
    obtain ⟨o, e, _⟩ := T.obj _ _ st2 b hb
    exact Heap.lt_size e
  have f3 : ∀ b ∈ fp, FpOk X pins (upd H2 D (.dK [])) b ∧ b < s3.heap.objs.size := fun b hb => by
    have hlt := sz b hb
    refine ⟨⟨?_, (f2 b hb).2⟩, by rw [h3, Heap.size_push]; exact Nat.lt_succ_of_lt hlt⟩
    rw [upd_ne (by rw [← hD]; exact Nat.ne_of_lt hlt)]
    exact (f2 b hb).1
  have st3 : tn 0 s3.heap := T.keep _ _ _ st2 fun b _ o e => by rw [h3]; exact Heap.get?_push_of_some _ e
  have I4 := block_start I3 ok hN f3
  have pg := hg s3 (upd H2 D (.dK [])) s3.heap.objs.size (cellsFrom (s3.heap.objs.size + 1) scope.names (cloFrom X.env.cells scope.names [])) fp
  have pt := ht s3 (upd H2 D (.dK [])) s3.heap.objs.size (cellsFrom (s3.heap.objs.size + 1) scope.names (cloFrom X.env.cells scope.names [])) fp
  have pk := hk s3 (upd H2 D (.dK [])) s3.heap.objs.size (cellsFrom (s3.heap.objs.size + 1) scope.names (cloFrom X.env.cells scope.names [])) fp
  have pe := he s3 (upd H2 D (.dK [])) s3.heap.objs.size (cellsFrom (s3.heap.objs.size + 1) scope.names (cloFrom X.env.cells scope.names [])) fp
  have pi1 := hi1 s3 (upd H2 D (.dK [])) s3.heap.objs.size (cellsFrom (s3.heap.objs.size + 1) scope.names (cloFrom X.env.cells scope.names [])) fp
  have pg1 := hg1 s3 (upd H2 D (.dK [])) s3.heap.objs.size (cellsFrom (s3.heap.objs.size + 1) scope.names (cloFrom X.env.cells scope.names [])) fp
  have pt1 := ht1 s3 (upd H2 D (.dK [])) s3.heap.objs.size (cellsFrom (s3.heap.objs.size + 1) scope.names (cloFrom X.env.cells scope.names [])) fp
  show codeAny _ _ (.compStart (.DictComp kx vx [⟨tg, iter, ifs, 0⟩, ⟨tg1, iter1, ifs1, 0⟩] scope pos) 0 (.ref it) (.ref D) (compEnvC scope (cellsFrom (s3.heap.objs.size + 1) scope.names (cloFrom X.env.cells scope.names [])) s3.heap.objs.size X.env)) (compPost (model X.prog X.w) X.A X.xe use Qf (.ref D) s3.heap.objs.size) { s3 with heap := pushCells (s3.heap.push { cls := .type "dict", data := .dict #[] }) scope.names }
  have nfp : ∀ b ∈ fp, (upd H2 D (.dK [])) b = none := fun b hb => (f3 b hb).1.1
  generalize hce : compEnvC scope (cellsFrom (s3.heap.objs.size + 1) scope.names (cloFrom X.env.cells scope.names [])) s3.heap.objs.size X.env = ce at I4 pg pt pk pe pi1 pg1 pt1 ⊢
  have cL : ce.locals = s3.heap.objs.size := by subst hce; rfl
  generalize hH3 : upd H2 D (.dK []) = H3 at I3 I4 pg pt pk pe pi1 pg1 pt1 w0 nfp f3
  generalize hs4 : ({ s3 with heap := pushCells (s3.heap.push { cls := .type "dict", data := .dict #[] }) scope.names } : Shared) = s4 at I4 ⊢
  have st4 : tn 0 s4.heap := T.keep _ _ _ st3 fun b _ o e => by rw [← hs4]; exact pushCells_keeps _ _ _ _ (Heap.get?_push_of_some _ e)
  have stat : ∀ {σ' : L2.St} {H' : Hp} {s' : Shared}, Inv (X.blk s3 H3 scope ce fp) [] σ' H' s' → (∀ b ∈ fp, H' b = none) → ∀ b ∈ fp, FpOk (X.blk s3 H3 scope ce fp) [] H' b := fun {σ' H' s'} I' hn b hb =>
    ⟨hn b hb, (I'.ok.exf b hb).1, I'.ok.exfs b hb, .inl hb, fun x c e => (I'.ok.exf b hb).2 x c e, fun p hp => absurd (show p ∈ ([] : List (Addr × Obj)) ++ [] from hp) (by simp)⟩
  have loop : codeAny (model X.prog X.w) X.A (.compLoop (.DictComp kx vx [⟨tg, iter, ifs, 0⟩, ⟨tg1, iter1, ifs1, 0⟩] scope pos) 0 (.ref it) (.ref D) ce) (compPost (model X.prog X.w) X.A X.xe use Qf (.ref D) s3.heap.objs.size) s4 := by
    refine dLoop2_out (hs1 ce) (fun n s' => ∃ i H', Inv (X.blk s3 H3 scope ce fp) [] (L2.wipe σ (own.map (·.2))) H' s' ∧ tn i s'.heap ∧ (∀ b ∈ fp, H' b = none) ∧ W i n H') ?_ m0 ⟨0, H3, I4, st4, nfp, w0⟩
    rintro n s5 ⟨i, H5, I5, st5, n5, w5⟩
    rcases turn i n H5 w5 with ⟨stop, qq⟩ | ⟨go, Nx, hNx, step⟩
    · have td := T.done (X.blk s3 H3 scope ce fp) rfl rfl rfl hc i [] s5 _ H5 (fun _ _ => False) I5 (stat I5 n5) st5 stop
      refine thnF td fun r s6 ⟨hr, I6⟩ => ?_
      subst hr
      -- back in the def's context
      have I7 : Inv X pins σ H5 s6 := I3.call' (ch := fp) I6.os I6.base I6.hok I6.bare fun b hb => ⟨(f3 b hb).1.2.2.2.1, (f3 b hb).1.2.1, (f3 b hb).1.2.2.2.2.1, (f3 b hb).1.2.2.2.2.2⟩
      have nC : H5 s3.heap.objs.size = none := by
        have z : H5 ce.locals = none := I6.free
        rw [cL] at z
        exact z
      obtain ⟨m, hn, _⟩ := I6.loc
      have hn : s6.heap.Ns ce.locals m := hn
      rw [cL] at hn
      exact hRR D s3.heap.objs.size s6 m H5 I7 qq hn (I3.fpOk (Nat.le_refl _) nC)
    · have ti := T.item (X.blk s3 H3 scope ce fp) rfl rfl rfl hc i [] s5 _ H5 (fun _ _ => False) I5 (stat I5 n5) st5 go
      refine thnF ti fun r s6 ⟨u, hr, h6⟩ => ?_
      subst hr
      refine thnF h6 fun _ s7 ⟨x, H7, I7, r7, y7, st7, n7⟩ => ?_
      have I7' := I7.pinned (stat I7 n7) (T.obj _ _ st7)
      refine thnF (pg.run _ s7 _ H7 x u _ I7' r7 (step x H7 y7)) fun _ s8 ⟨σ8, H8, I8, hw8, q8⟩ => ?_
      refine thnF (pt.run _ s8 σ8 H8 _ I8 q8) fun b s9 ⟨H9, I9, q9⟩ => ?_
      -- the turn's end, from any slots that know what the block knew at its start
      have fin : ∀ {σ9 : L2.St} {s' : Shared} {H' : Hp}, Inv (X.blk s3 H3 scope ce fp) ([] ++ pinsAt fp s7.heap) σ9 H' s' → (L2.wipe σ (own.map (·.2))).length = σ9.length → (∀ (j : Nat) v, (L2.wipe σ (own.map (·.2)))[j]? = some (some v) → σ9[j]? = some (some v)) → Nx H' →
          ∃ m, m < n ∧ ∃ i H', Inv (X.blk s3 H3 scope ce fp) [] (L2.wipe σ (own.map (·.2))) H' s' ∧ tn i s'.heap ∧ (∀ b ∈ fp, H' b = none) ∧ W i m H' := fun {σ9 s' H'} I' hl hk nx => by
        obtain ⟨m', hm, w'⟩ := hNx H' nx
        have pin' : ∀ b ∈ fp, ∀ o, s7.heap.get? b = some o → s'.heap.get? b = some o ∧ H' b = none := fun b hb o e =>
          let z := I'.pin (b, o) (List.mem_append_right _ (List.mem_append_right _ (mem_pinsAt hb e)))
          ⟨z.1, z.2.1⟩
        refine ⟨m', hm, i + 1, H', (I'.unpinned (pins := [])).weak hl hk, T.keep _ _ _ st7 fun b hb o e => (pin' b hb o e).1, fun b hb => ?_, w'⟩
        obtain ⟨o, e, _⟩ := T.obj _ _ st7 b hb
        exact (pin' b hb o e).2
      have hl8 : (L2.wipe σ (own.map (·.2))).length = σ8.length := by rw [← hw8, wipe_length]
      have hk8 : ∀ (j : Nat) v, (L2.wipe σ (own.map (·.2)))[j]? = some (some v) → σ8[j]? = some (some v) := fun j v e => by
        rw [← hw8] at e
        exact (wipe_some e).1
      have hk9 : ∀ (j : Nat) v, (L2.wipe σ (own.map (·.2)))[j]? = some (some v) → (L2.wipe σ8 vs1)[j]? = some (some v) := fun j v e => by
        rw [← hw8] at e
        obtain ⟨e1, e2⟩ := wipe_some e
        rw [wipe_out fun z => e2 (hv j z)]
        exact e1
      cases b with
      | false =>
        simp only [Bool.false_eq_true, if_false] at q9 ⊢
        exact fin I9 hl8 hk8 q9
      | true =>
        simp only [if_true] at q9 ⊢
        refine thnF (pi1.run _ s9 σ8 H9 _ I9 q9) fun xv s10 hx => thnF hx fun itv s11 h11 => ?_
        obtain ⟨it1, fp1, tn1, J1, H11, e1, I11, T1, st11, f11, W1, ⟨m1, w1⟩, turn1⟩ := h11
        subst e1
        -- the inner loop
        have stat1 : ∀ {H' : Hp}, (∀ b ∈ fp1, H' b = none) → ∀ b ∈ fp1, FpOk (X.blk s3 H3 scope ce fp) ([] ++ pinsAt fp s7.heap) H' b := fun hn b hb => ⟨hn b hb, (f11 b hb).2⟩
        have loop1 : codeAny (model X.prog X.w) X.A (.compLoop (.DictComp kx vx [⟨tg, iter, ifs, 0⟩, ⟨tg1, iter1, ifs1, 0⟩] scope pos) 1 (.ref it1) (.ref D) ce)
            (fun r s' => match r with
              | .ok _ => ∃ m, m < n ∧ ∃ i H', Inv (X.blk s3 H3 scope ce fp) [] (L2.wipe σ (own.map (·.2))) H' s' ∧ tn i s'.heap ∧ (∀ b ∈ fp, H' b = none) ∧ W i m H'
              | .error _ => False) s11 := by
          refine dLoop2_in (fun k s' => ∃ j H', Inv (X.blk s3 H3 scope ce fp) ([] ++ pinsAt fp s7.heap) (L2.wipe σ8 vs1) H' s' ∧ tn1 j s'.heap ∧ (∀ b ∈ fp1, H' b = none) ∧ W1 j k H') ?_ m1 ⟨0, H11, I11.weak (wipe_length _ _) (fun j v e => (wipe_some e).1), st11, fun b hb => (f11 b hb).1, w1⟩
          rintro k s12 ⟨j, H12, I12, st12, n12, w12⟩
          rcases turn1 j k H12 w12 with ⟨stop1, nx1⟩ | ⟨go1, Nx1, hNx1, step1⟩
          · refine thnF (T1.done (X.blk s3 H3 scope ce fp) rfl rfl rfl hc j _ s12 (L2.wipe σ8 vs1) H12 (fun _ _ => False) I12 (stat1 n12) st12 stop1) fun r s13 ⟨hr, I13⟩ => ?_
            subst hr
            exact fin I13 (hl8.trans (wipe_length σ8 vs1).symm) hk9 nx1
          · refine thnF (T1.item (X.blk s3 H3 scope ce fp) rfl rfl rfl hc j _ s12 (L2.wipe σ8 vs1) H12 (fun _ _ => False) I12 (stat1 n12) st12 go1) fun r s13 ⟨u1, hr, h13⟩ => ?_
            subst hr
            refine thnF h13 fun _ s14 ⟨x1, H14, I14, r14, y14, st14, n14⟩ => ?_
            have I14' := I14.pinned (stat1 n14) (T1.obj _ _ st14)
            refine thnF (pg1.run _ s14 (L2.wipe σ8 vs1) H14 x1 u1 _ I14' r14 (step1 x1 H14 y14)) fun _ s15 ⟨σ15, H15, I15, hw15, q15⟩ => ?_
            refine thnF (pt1.run _ s15 σ15 H15 _ I15 q15) fun b1 s16 ⟨H16, I16, q16⟩ => ?_
            have fin1 : ∀ {s' : Shared} {H' : Hp}, Inv (X.blk s3 H3 scope ce fp) (([] ++ pinsAt fp s7.heap) ++ pinsAt fp1 s14.heap) σ15 H' s' → Nx1 H' → ∃ m, m < k ∧ ∃ j H', Inv (X.blk s3 H3 scope ce fp) ([] ++ pinsAt fp s7.heap) (L2.wipe σ8 vs1) H' s' ∧ tn1 j s'.heap ∧ (∀ b ∈ fp1, H' b = none) ∧ W1 j m H' := fun {s' H'} I' nx => by
              obtain ⟨m', hm, w'⟩ := hNx1 H' nx
              have pin' : ∀ b ∈ fp1, ∀ o, s14.heap.get? b = some o → s'.heap.get? b = some o ∧ H' b = none := fun b hb o e =>
                let z := I'.pin (b, o) (List.mem_append_right _ (List.mem_append_right _ (mem_pinsAt hb e)))
                ⟨z.1, z.2.1⟩
              refine ⟨m', hm, j + 1, H', I'.unpinned.weak (by rw [← hw15, wipe_length]) (fun j v e => by rw [← hw15] at e; exact (wipe_some e).1), T1.keep _ _ _ st14 fun b hb o e => (pin' b hb o e).1, fun b hb => ?_, w'⟩
              obtain ⟨o, e, _⟩ := T1.obj _ _ st14 b hb
              exact (pin' b hb o e).2
            cases b1 with
            | false =>
              simp only [Bool.false_eq_true, if_false] at q16 ⊢
              exact fin1 I16 q16
            | true =>
              simp only [if_true] at q16 ⊢
              refine thnF (pk.run _ s16 σ15 H16 _ I16 q16) fun z s17 ⟨yk, H17, I17, r17, q17⟩ => ?_
              refine thnF (pe.run _ s17 σ15 H17 _ I17 q17) fun z2 s18 ⟨yv, H18, I18, r18, kvs, k0, ek, hD18, hz18, nx⟩ => ?_
              subst ek
              exact d_dictSet (X := X.blk s3 H3 scope ce fp) I18 hD18 hz18 r17 r18 fun s19 I19 => fin1 I19 nx
        exact dStart1_ok loop1 (T1.self X.A 0 _ _ _ st11 loop1)
  exact codeAny_compStart_dict loop (T.self X.A 0 _ _ _ st4 loop)
/-- as a value -/
theorem pe_dc2 {kx vx tg iter tg1 iter1 : Expr} {ifs ifs1 : List Expr} {scope : Scope} {own : List (Str × Nat)} {vs1 : List Nat} {pos : Pos} {wi wi1 : TI} {g g1 : TG} {tt tt1 : TT} {tk tv : TE} (hc : X.calm = true) (hN : X.N.Nodup) (hi : PI X tg iter wi) (ok : BlkOk X.N X.env.scope scope own) (hv : ∀ i ∈ vs1, i ∈ own.map (·.2))
    (hg : ∀ (s : Shared) (H : Hp) (C : Addr) (cl : List (Str × Addr)) (fp : List Addr), PG (X.blk s H scope (compEnvC scope cl C X.env) fp) tg g) (ht : ∀ (s : Shared) (H : Hp) (C : Addr) (cl : List (Str × Addr)) (fp : List Addr), PTs (X.blk s H scope (compEnvC scope cl C X.env) fp) ifs tt)
    (hi1 : ∀ (s : Shared) (H : Hp) (C : Addr) (cl : List (Str × Addr)) (fp : List Addr), PI (X.blk s H scope (compEnvC scope cl C X.env) fp) tg1 iter1 wi1)
    (hg1 : ∀ (s : Shared) (H : Hp) (C : Addr) (cl : List (Str × Addr)) (fp : List Addr), PG (X.blk s H scope (compEnvC scope cl C X.env) fp) tg1 g1) (ht1 : ∀ (s : Shared) (H : Hp) (C : Addr) (cl : List (Str × Addr)) (fp : List Addr), PTs (X.blk s H scope (compEnvC scope cl C X.env) fp) ifs1 tt1)
    (hk : ∀ (s : Shared) (H : Hp) (C : Addr) (cl : List (Str × Addr)) (fp : List Addr), PE (X.blk s H scope (compEnvC scope cl C X.env) fp) kx tk) (he : ∀ (s : Shared) (H : Hp) (C : Addr) (cl : List (Str × Addr)) (fp : List Addr), PE (X.blk s H scope (compEnvC scope cl C X.env) fp) vx tv) (hs : ∀ x, foldedSetIterable iter X.env x = pure x := by intro _; rfl) (hs1 : ∀ env x, foldedSetIterable iter1 env x = pure x := by intro _ _; rfl) :
    PE X (.DictComp kx vx [⟨tg, iter, ifs, 0⟩, ⟨tg1, iter1, ifs1, 0⟩] scope pos) (tDc2 wi g tt wi1 g1 tt1 tk tv (own.map (·.2)) vs1) := by
  refine ⟨fun pins s σ H Q I h => ?_⟩
  rw [arm_eval_DictComp]
  refine dc2_core hc hN I hi ok hv hg ht hk he hs hi1 hg1 ht1 hs1 h fun D C s' m H' I' q hn f => ⟨m, hn, fun h'' sb => ?_⟩
  obtain ⟨f0, f1, f2, f3, f4, f5⟩ := f
  exact ⟨.ref D, H', I'.turned (t' := s'.toks) (fun b o hb e => (sb.2 b hb).trans e) f0 f1 f3 f4 f5, rfl, q⟩
end
variable [TabsC]
theorem wipeD_m {δ : List DV} {j : Nat} {d : D} : ∀ {vs : List Nat}, (wipeD δ vs)[j]? = some (.m d) → δ[j]? = some (.m d)
  | [], h => h
  | v :: vs, h => by
    have h : ((wipeD δ vs).set v .u)[j]? = some (.m d) := h
    by_cases e : v = j
    · subst e
      rw [List.getElem?_set] at h
      simp only [if_true] at h
      split at h <;> cases h
    · rw [List.getElem?_set_ne e] at h
      exact wipeD_m h
/-- a target sets values alone -/
def KeepM (g : GM) : Prop := ∀ d δ P, g d δ P → g d δ (fun δ' => P δ' ∧ ∀ (j : Nat) (dj : D), δ'[j]? = some (.m dj) → δ[j]? = some (.m dj))
def KeepMs (g : GMs) : Prop := ∀ ds δ P, g ds δ P → g ds δ (fun δ' => P δ' ∧ ∀ (j : Nat) (dj : D), δ'[j]? = some (.m dj) → δ[j]? = some (.m dj))
structure KG (g : GM) : Prop where
  keep : KeepM g
  mono : ∀ d δ (P P' : List DV → Prop), (∀ δ', P δ' → P' δ') → g d δ P → g d δ P'
structure KGs (g : GMs) : Prop where
  keep : KeepMs g
  mono : ∀ d δ (P P' : List DV → Prop), (∀ δ', P δ' → P' δ') → g d δ P → g d δ P'
theorem kg_N (i : Nat) : KG (gN i) := ⟨fun d δ P h => ⟨h, fun j dj h2 => by
  by_cases e : i = j
  · subst e
    rw [List.getElem?_set] at h2
    simp only [if_true] at h2
    split at h2 <;> cases h2
  · rw [List.getElem?_set_ne e] at h2
    exact h2⟩, fun d δ P P' k h => k _ h⟩
theorem kgs_nil : KGs gsNil := ⟨fun ds δ P h => ⟨h.1, h.2, fun _ _ z => z⟩, fun ds δ P P' k h => ⟨h.1, k _ h.2⟩⟩
theorem kgs_cons {g : GM} {gs : GMs} (hg : KG g) (hs : KGs gs) : KGs (gsCons g gs) := ⟨fun ds δ P h => by
  obtain ⟨d, r, e, h⟩ := h
  refine ⟨d, r, e, hg.mono _ _ _ _ (fun δ' k => ?_) (hg.keep _ _ _ h)⟩
  exact hs.mono _ _ _ _ (fun δ'' k2 => ⟨k2.1, fun j dj z => k.2 j dj (k2.2 j dj z)⟩) (hs.keep _ _ _ k.1), fun ds δ P P' k ⟨d, r, e, h⟩ => ⟨d, r, e, hg.mono _ _ _ _ (fun δ' h' => hs.mono _ _ _ _ k h') h⟩⟩
theorem kg_T {n : Nat} {gs : GMs} (hs : KGs gs) : KG (gT n gs) := ⟨fun d δ P ⟨ds, e, n, h⟩ => ⟨ds, e, n, hs.keep _ _ _ h⟩, fun d δ P P' k ⟨ds, e, n, h⟩ => ⟨ds, e, n, hs.mono _ _ _ _ k h⟩⟩
def compD2i (g1 : GM) (mt1 : BM) (mk mv : TM) (δ0 : List DV) : List D → List (Key × D) → (List (Key × D) → Prop) → Prop
  | [], acc, K => K acc
  | d :: ds, acc, K => g1 d δ0 fun δ' => mt1 δ' (fun b => if b = true then mk δ' (fun kd => mv δ' (fun v => ∃ key : Key, kd = keyD key ∧ acc.length < sizeLine ∧ compD2i g1 mt1 mk mv δ0 ds (putD acc key v) K) NoE) NoE else compD2i g1 mt1 mk mv δ0 ds acc K) NoE
def compD2 (vs1 : List Nat) (g : GM) (mt : BM) (mi1 : LM) (g1 : GM) (mt1 : BM) (mk mv : TM) (δ0 : List DV) : List D → List (Key × D) → (D → Prop) → Prop
  | [], acc, Q => Q (.dict acc)
  | d :: ds, acc, Q => g d δ0 fun δ' => mt δ' (fun b => if b = true then mi1 δ' (fun es => compD2i g1 mt1 mk mv (wipeD δ' vs1) es acc (fun acc' => compD2 vs1 g mt mi1 g1 mt1 mk mv δ0 ds acc' Q)) NoE else compD2 vs1 g mt mi1 g1 mt1 mk mv δ0 ds acc Q) NoE
def mCompD2 (vs vs1 : List Nat) (mi : LM) (g : GM) (mt : BM) (mi1 : LM) (g1 : GM) (mt1 : BM) (mk mv : TM) : TM := fun δ Q E => mi δ (fun ds => compD2 vs1 g mt mi1 g1 mt1 mk mv (wipeD δ vs) ds [] Q) E
section
variable {X : Cx} {W : WX} {pos p apos cpos : Pos} {ba : Bool} {e : Expr} {ma : TM}
theorem df_compD2 {kx vx tg it tg1 it1 : Expr} {ifs ifs1 : List Expr} {scope : Scope} {own : List (Str × Nat)} {vs1 : List Nat} {mi mi1 : LM} {g g1 : GM} {mt mt1 : BM} {mk mv : TM} (hc : X.calm = true) (hN : X.N.Nodup) (hi : DI X W tg it ba mi) (ok : BlkOk X.N X.env.scope scope own) (hv : ∀ i ∈ vs1, i ∈ own.map (·.2)) (hgm : KG g)
    (hg : ∀ (s : Shared) (H : Hp) (C : Addr) (cl : List (Str × Addr)) (fp : List Addr), DGw (X.blk s H scope (compEnvC scope cl C X.env) fp) (own.map (·.2)) tg g) (ht : ∀ (s : Shared) (H : Hp) (C : Addr) (cl : List (Str × Addr)) (fp : List Addr), DTs (X.blk s H scope (compEnvC scope cl C X.env) fp) NoW ifs mt)
    (hi1 : ∀ (s : Shared) (H : Hp) (C : Addr) (cl : List (Str × Addr)) (fp : List Addr), DI (X.blk s H scope (compEnvC scope cl C X.env) fp) NoW tg1 it1 false mi1)
    (hg1 : ∀ (s : Shared) (H : Hp) (C : Addr) (cl : List (Str × Addr)) (fp : List Addr), DGw (X.blk s H scope (compEnvC scope cl C X.env) fp) vs1 tg1 g1) (ht1 : ∀ (s : Shared) (H : Hp) (C : Addr) (cl : List (Str × Addr)) (fp : List Addr), DTs (X.blk s H scope (compEnvC scope cl C X.env) fp) NoW ifs1 mt1)
    (hk : ∀ (s : Shared) (H : Hp) (C : Addr) (cl : List (Str × Addr)) (fp : List Addr), DE (X.blk s H scope (compEnvC scope cl C X.env) fp) NoW kx false mk) (he : ∀ (s : Shared) (H : Hp) (C : Addr) (cl : List (Str × Addr)) (fp : List Addr), DE (X.blk s H scope (compEnvC scope cl C X.env) fp) NoW vx false mv)
    (hs : ∀ x, foldedSetIterable it X.env x = pure x := by intro _; rfl) (hs1 : ∀ env x, foldedSetIterable it1 env x = pure x := by intro _ _; rfl) :
    DF X W (.DictComp kx vx [⟨tg, it, ifs, 0⟩, ⟨tg1, it1, ifs1, 0⟩] scope pos) (mCompD2 (own.map (·.2)) vs1 mi g mt mi1 g1 mt1 mk mv) :=
  PE.imp (pe_dc2 (g := tgw X.K (List.map (fun x : Str × Nat => x.2) own) g) (tt := tb X.K NoW mt) (wi1 := ti X.K NoW false mi1) (g1 := tgw X.K vs1 g1) (tt1 := tb X.K NoW mt1) (tk := tm X.K NoW false mk) (tv := tm X.K NoW false mv) hc hN hi ok hv hg ht hi1 hg1 ht1 hk he hs hs1) fun σ H Q ⟨F, ow, δ, P, EK, A, m, q⟩ => by
    refine ⟨F, ow, δ, _, EK, A, m, fun ds J H1 hds s1 ok => ?_⟩
    intro Dn hD
    have E1 := A.env.grow s1
    have slotm : ∀ (j : Nat) (dj : D), (wipeD δ (own.map (·.2)))[j]? = some (.m dj) → ∃ a, (L2.wipe σ (own.map (·.2)))[j]? = some (some (.ref a)) ∧ a ≠ Dn := fun j dj h => by
      obtain ⟨s, e1, a, e2, ha, _⟩ := (E1.wipe (own.map (·.2))).slot j _ h
      subst e2
      refine ⟨a, e1, fun z => ?_⟩
      subst z
      obtain ⟨o, q, nn⟩ := E1.trk a (List.mem_append_right _ ha)
      rw [hD] at q; cases q
    have nodn : ∀ (j : Nat) (dj : D), (wipeD δ (own.map (·.2)))[j]? = some (.m dj) → (L2.wipe σ (own.map (·.2)))[j]? ≠ some (some (.ref Dn)) := fun j dj h z => by
      obtain ⟨a, e1, n⟩ := slotm j dj h
      rw [e1] at z; cases z
      exact n rfl
    let Z : Nat → Hp → Prop := fun i H => Same H1 H ∧ EnvD X.K F (Dn :: ow) (L2.wipe σ (own.map (·.2))) (wipeD δ (own.map (·.2))) H ∧ ∃ kvs acc, H Dn = some (.dK kvs) ∧ kvs.length ≤ sizeLine ∧ RepKs X.K (sub H (F.ls0 ++ (Dn :: ow))) kvs acc ∧ compD2 vs1 g mt mi1 g1 mt1 mk mv (wipeD δ (own.map (·.2))) (ds.drop i) acc P
    refine ⟨fun i n H => n = ds.length - i ∧ i ≤ ds.length ∧ Z i H, ⟨_, rfl, Nat.zero_le _, same_upd hD, (E1.wipe _).grab hD (same_upd hD) ⟨_, upd_same, plain_of⟩, [], [], upd_same, Nat.zero_le _, .nil, hds⟩, ?_⟩
    rintro i n H2 ⟨rfl, hi2, s2, E2, kvs, acc, hx, hl, rx, q2⟩
    have sg : Grow (flo ba H1 (F.ls0 ++ ow)) H2 := flo_le.trans s2.ob
    have sb : Grow (sub H1 (F.ls0 ++ ow)) (sub H2 (F.ls0 ++ (Dn :: ow))) := by
      rw [← sub_congr (H := H2) (mem_swap (ls := F.ls0) (own := ow) (p := Dn))]
      exact sub_fresh hD s2
    by_cases hlt : i < ds.length
    · refine .inr ⟨ok.go i H2 sg hlt, Z (i + 1), fun H' z => ⟨_, (by omega), rfl, hlt, z⟩, fun x H3 y => ?_⟩
      obtain ⟨d, ed, s3, r3⟩ := ok.yld i H2 x H3 (F.ls0 ++ (Dn :: ow)) sg sb E2.trk hlt y
      rw [drop_get ed] at q2
      refine ⟨F, Dn :: ow, _, d, _, E2.grow s3, r3, hgm.keep _ _ _ q2, fun σ4 δ4 E4 w4 q4 => ⟨by rw [w4]; exact wipe_wipe, F, Dn :: ow, δ4, _, NoE, ⟨E4, noPass⟩, q4.1, fun b H5 p5 s5 => ?_⟩⟩
      cases b with
      | false =>
        have p5' : compD2 vs1 g mt mi1 g1 mt1 mk mv (wipeD δ (own.map (·.2))) (ds.drop (i + 1)) acc P := by simpa using p5
        exact iteF ⟨(s2.trans s3).trans s5, E2.grow (s3.trans s5), kvs, acc, s5 _ _ (s3 _ _ hx), hl, rx.mono (sub_same (s3.trans s5)), p5'⟩
      | true =>
        rw [if_pos rfl] at p5
        refine iteT ⟨F, Dn :: ow, δ4, _, NoE, ⟨E4.grow s5, noPass⟩, p5, fun es J1 H6 pes s6 ok1 => ?_⟩
        have s36 := (s3.trans s5).trans s6
        have s16 := s2.trans s36
        have nodn1 : ∀ (j : Nat) (dj : D), (wipeD δ4 vs1)[j]? = some (.m dj) → (L2.wipe σ4 vs1)[j]? ≠ some (some (.ref Dn)) := fun j dj h z => by
          have h2 := wipeD_m h
          have h3 : (wipeD δ (own.map (·.2)))[j]? = some (.m dj) := q4.2 j dj h2
          obtain ⟨a, e1, na⟩ := slotm j dj h3
          have w4' : L2.wipe σ4 (own.map (·.2)) = L2.wipe σ (own.map (·.2)) := w4.trans wipe_wipe
          rw [← w4'] at e1
          have e2 := (wipe_some e1).1
          rw [(wipe_some z).1] at e2
          cases e2
          exact na rfl
        let Y : Nat → Hp → Prop := fun j H => Same H1 H ∧ Grow (sub H6 (F.ls0 ++ (Dn :: ow))) (sub H (F.ls0 ++ (Dn :: ow))) ∧ EnvD X.K F (Dn :: ow) (L2.wipe σ (own.map (·.2))) (wipeD δ (own.map (·.2))) H ∧ EnvD X.K F (Dn :: ow) (L2.wipe σ4 vs1) (wipeD δ4 vs1) H ∧ ∃ kvs acc, H Dn = some (.dK kvs) ∧ kvs.length ≤ sizeLine ∧ RepKs X.K (sub H (F.ls0 ++ (Dn :: ow))) kvs acc ∧
          compD2i g1 mt1 mk mv (wipeD δ4 vs1) (es.drop j) acc (fun acc' => compD2 vs1 g mt mi1 g1 mt1 mk mv (wipeD δ (own.map (·.2))) (ds.drop (i + 1)) acc' P)
        refine ⟨fun j k H => k = es.length - j ∧ j ≤ es.length ∧ Y j H, ⟨_, rfl, Nat.zero_le _, s16, Grow.refl _, E2.grow s36, (E4.grow (s5.trans s6)).wipe vs1, kvs, acc, s6 _ _ (s5 _ _ (s3 _ _ hx)), hl, rx.mono (sub_same s36), pes⟩, ?_⟩
        rintro j k H7 ⟨rfl, hj, t1, t2, F2, F4, kvs7, acc7, hx7, hl7, rx7, q7⟩
        have tg7 : Grow (flo false H6 (F.ls0 ++ (Dn :: ow))) H7 := t2.trans sub_le
        by_cases hlt7 : j < es.length
        · refine .inr ⟨ok1.go j H7 tg7 hlt7, Y (j + 1), fun H' z => ⟨_, (by omega), rfl, hlt7, z⟩, fun x1 H8 y1 => ?_⟩
          obtain ⟨d1, ed1, s8, r8⟩ := ok1.yld j H7 x1 H8 (F.ls0 ++ (Dn :: ow)) tg7 t2 F4.trk hlt7 y1
          rw [drop_get ed1] at q7
          refine ⟨F, Dn :: ow, _, d1, _, F4.grow s8, r8, q7, fun σ9 δ9 E9 w9 q9 => ⟨by rw [w9]; exact wipe_wipe, F, Dn :: ow, δ9, _, NoE, ⟨E9, noPass⟩, q9, fun b H9 p9 s9 => ?_⟩⟩
          cases b with
          | false =>
            have p9' := p9
            simp only [Bool.false_eq_true, if_false] at p9'
            exact iteF ⟨t1.trans (s8.trans s9), t2.trans (sub_same (s8.trans s9)), F2.grow (s8.trans s9), F4.grow (s8.trans s9), kvs7, acc7, s9 _ _ (s8 _ _ hx7), hl7, rx7.mono (sub_same (s8.trans s9)), p9'⟩
          | true =>
            rw [if_pos rfl] at p9
            refine iteT ⟨F, Dn :: ow, δ9, _, NoE, ⟨E9.grow s9, noPass⟩, p9, fun kd kv H10 p10 s10 r10 => ⟨F, Dn :: ow, δ9, _, NoE, ⟨(E9.grow s9).grow s10, noPass⟩, p10, fun yd v H11 ⟨key, ek, hz, p11⟩ s11 r11 => ?_⟩⟩
            subst ek
            have ekv := kV_of r10
            subst ekv
            have all := (s8.trans s9).trans (s10.trans s11)
            have hx11 := all _ _ hx7
            have es11 : sub (upd H11 Dn (.dK (putK kvs7 key v))) (F.ls0 ++ (Dn :: ow)) = sub H11 (F.ls0 ++ (Dn :: ow)) := sub_upd (List.mem_append_right _ List.mem_cons_self)
            have hz7 : kvs7.length < sizeLine := by rw [rx7.length]; exact hz
            refine ⟨kvs7, key, rfl, hx11, hz7, Same.put (t1.trans all) hD hx11, ?_, (F2.grow all).poke List.mem_cons_self hx11 nodn, (F4.grow all).poke List.mem_cons_self hx11 nodn1, putK kvs7 key v, putD acc7 key yd, upd_same, ?_, ?_, p11⟩
            · rw [es11]
              exact t2.trans (sub_same all)
            · have := putK_len kvs7 key v
              omega
            · rw [es11]
              exact (rx7.mono (sub_same all)).put r11.clean
        · have e : j = es.length := by omega
          subst e
          rw [List.drop_length] at q7
          exact .inl ⟨ok1.stop _ H7 tg7 rfl, t1, F2, kvs7, acc7, hx7, hl7, rx7, q7⟩
    · have e : i = ds.length := by omega
      subst e
      rw [List.drop_length] at q2
      refine .inl ⟨ok.stop _ H2 sg rfl, q _ Dn H2 q2 (s1.free hD) (s1.trans s2) (.d hx hl ?_)⟩
      rw [sub_congr (H := H2) (mem_swap (ls := F.ls0) (own := ow) (p := Dn))]
      exact rx
end
end DL
set_option Elab.async false
set_option linter.all false
set_option maxRecDepth 100000
set_option maxHeartbeats 4000000
/-! DL119: a, b = fresh, value where a name is a cell: the tuple is built and taken apart. -/
namespace DL
open PySem PySem.Spec PyProof.Rows L2
end DL
set_option Elab.async false
set_option linter.all false
set_option maxRecDepth 100000
set_option maxHeartbeats 4000000
/-! DL120: packings as plain rows of runs. -/
namespace DL
open PySem PySem.Spec PyProof.Rows L2
variable [TabsC]
abbrev PRun := Int × Int × Tab
def fillD (f : Tab) : D := .tup (f.map pairD)
def prD (x : PRun) : D := .tup [.int x.1, .int x.2.1, fillD x.2.2]
def packD (L : List PRun) : D := .sob "Packing" (.tup (L.map prD))
def jstep (acc : List PRun) (p : PRun) : List PRun := match acc.getLast? with
  | some q => if q.1 = p.1 ∧ q.2.2 = p.2.2 then acc.dropLast ++ [(p.1, q.2.1 + p.2.1, p.2.2)] else acc ++ [p]
  | none => acc ++ [p]
def joinR (L : List PRun) : List PRun := L.foldl jstep []
def roomsOf (L : List PRun) : Runs := L.map fun x => (x.1, x.2.1)
theorem rooms_snoc (L : List PRun) (p : PRun) : roomsOf (L ++ [p]) = roomsOf L ++ [(p.1, p.2.1)] := by unfold roomsOf; rw [List.map_append]; rfl
theorem join_snoc (L : List PRun) (p : PRun) : joinR (L ++ [p]) = jstep (joinR L) p := by unfold joinR; rw [List.foldl_append]; rfl
theorem jstep_nil (p : PRun) : jstep [] p = [p] := rfl
theorem jstep_end (acc : List PRun) (q p : PRun) : jstep (acc ++ [q]) p = if q.1 = p.1 ∧ q.2.2 = p.2.2 then acc ++ [(p.1, q.2.1 + p.2.1, p.2.2)] else acc ++ [q] ++ [p] := by
  unfold jstep
  rw [List.getLast?_append]
  simp
theorem snocI {α : Type} {P : List α → Prop} (h0 : P []) (h1 : ∀ L p, P L → P (L ++ [p])) (L : List α) : P L := by
  have : ∀ L : List α, P L.reverse := fun L => by
    induction L with
    | nil => exact h0
    | cons p r ih => rw [List.reverse_cons]; exact h1 _ _ ih
  have := this L.reverse
  rwa [List.reverse_reverse] at this
theorem end_or {α : Type} (L : List α) : L = [] ∨ ∃ l q, L = l ++ [q] := by
  rcases List.eq_nil_or_concat L with c | ⟨l, q, c⟩
  · exact .inl c
  · exact .inr ⟨l, q, by rw [c, List.concat_eq_append]⟩
theorem jstep_len (acc : List PRun) (p : PRun) : (jstep acc p).length ≤ acc.length + 1 := by
  rcases end_or acc with c | ⟨l, q, c⟩
  · subst c; simp [jstep_nil]
  · subst c
    rw [jstep_end]
    split <;> simp
theorem joinR_len (L : List PRun) : (joinR L).length ≤ L.length := by
  refine snocI (P := fun L => (joinR L).length ≤ L.length) (Nat.le_refl _) (fun L p ih => ?_) L
  rw [join_snoc, List.length_append]
  have := jstep_len (joinR L) p
  simp only [List.length_cons, List.length_nil]
  omega
theorem mstep_two (M : Runs) (r a b : Int) : mstep (mstep M (r, a)) (r, b) = mstep M (r, a + b) := by
  rcases end_or M with c | ⟨l, q, c⟩
  · subst c
    show mstep ([] ++ [(r, a)]) (r, b) = [(r, a + b)]
    rw [mstep_end, if_pos rfl]; rfl
  · subst c
    rw [mstep_end, mstep_end]
    by_cases e : q.1 = r
    · rw [if_pos e, if_pos e, mstep_end, if_pos rfl, Int.add_assoc]
    · rw [if_neg e, if_neg e, mstep_end, if_pos rfl]
theorem rooms_join (L : List PRun) : mergeT (roomsOf (joinR L)) = mergeT (roomsOf L) := by
  refine snocI (P := fun L => mergeT (roomsOf (joinR L)) = mergeT (roomsOf L)) rfl (fun L p ih => ?_) L
  rw [join_snoc, rooms_snoc, mergeT_snoc, ← ih]
  rcases end_or (joinR L) with c | ⟨l, q, c⟩
  · rw [c]; rfl
  · rw [c, jstep_end]
    split
    · rename_i h
      rw [rooms_snoc, mergeT_snoc, rooms_snoc, mergeT_snoc, h.1, mstep_two]
    · rw [rooms_snoc, mergeT_snoc]
def fillOk (f : Tab) : Prop := f.length ≤ 12 ∧ (∀ p, p ∈ f → (1 ≤ p.1 ∧ p.1 < 10 ^ 200) ∧ 1 ≤ p.2 ∧ p.2 < 10 ^ 200) ∧ ascL (keysT f) = true
def loadT (f : Tab) : Int := (f.map fun p => p.1 * p.2).sum
/-- a right run -/
def prOk (x : PRun) : Prop := ((1 ≤ x.1 ∧ x.1 < 10 ^ 200) ∧ 1 ≤ x.2.1 ∧ x.2.1 < 10 ^ 200) ∧ fillOk x.2.2 ∧ loadT x.2.2 ≤ x.1
def nbP (f : Tab) : List ((Int × Int) × (Int × Int)) := f.zip (f.drop 1)
theorem nb_keys (f : Tab) : zipD (f.map pairD) ((f.map pairD).drop 1) = (nbP f).map fun p => .tup [pairD p.1, pairD p.2] := by
  unfold zipD nbP
  rw [← List.map_drop, List.zip_map, List.map_map]
  rfl
theorem nb_asc : ∀ f : Tab, ((nbP f).all fun p => decide (p.1.1 < p.2.1)) = ascL (keysT f)
  | [] => rfl
  | [x] => rfl
  | x :: y :: r => by
    show (decide (x.1 < y.1) && (nbP (y :: r)).all fun p => decide (p.1.1 < p.2.1)) = (decide (x.1 < y.1) && ascL (keysT (y :: r)))
    rw [nb_asc (y :: r)]
theorem fineF (f : Tab) : fineN 2 (fillD f) := fineN_tup fun d hd => by
  obtain ⟨p, hp, rfl⟩ := List.mem_map.mp hd
  exact fineP p
theorem finePr (x : PRun) : fineN 3 (prD x) := fineN_tup fun d hd => by
  simp only [List.mem_cons, List.not_mem_nil, or_false] at hd
  rcases hd with rfl | rfl | rfl
  · exact fineN_int
  · exact fineN_int
  · exact fineF _
theorem finePR (L : List PRun) : fineN 4 (.list (L.map prD)) := fineN_list fun d hd => by
  obtain ⟨p, hp, rfl⟩ := List.mem_map.mp hd
  exact finePr p
theorem finePT (L : List PRun) : fineN 4 (.tup (L.map prD)) := fineN_tup fun d hd => by
  obtain ⟨p, hp, rfl⟩ := List.mem_map.mp hd
  exact finePr p
theorem fEq_fill {f g : Tab} {Q : Bool → Prop} (q : Q (decide (f = g))) : fEq (fillD f) (fillD g) Q := eq_runs f g q
/-! ### things -/
def flatP (L : List PRun) : Tab := L.flatMap fun x => x.2.2.map fun p => (p.1, x.2.1 * p.2)
theorem flat_snoc (L : List PRun) (p : PRun) : flatP (L ++ [p]) = flatP L ++ p.2.2.map fun q => (q.1, p.2.1 * q.2) := by unfold flatP; rw [List.flatMap_append]; simp
theorem keys_join (L : List PRun) (k : Int) : k ∈ keysT (flatP (joinR L)) ↔ k ∈ keysT (flatP L) := by
  refine snocI (P := fun L => k ∈ keysT (flatP (joinR L)) ↔ k ∈ keysT (flatP L)) Iff.rfl (fun L p ih => ?_) L
  have ka : ∀ A B : Tab, k ∈ keysT (A ++ B) ↔ k ∈ keysT A ∨ k ∈ keysT B := fun A B => by simp [keysT]
  have kf : ∀ (f : Tab) (a : Int), k ∈ keysT (f.map fun q => (q.1, a * q.2)) ↔ k ∈ keysT f := fun f a => by
    unfold keysT
    rw [List.map_map]
    exact Iff.rfl
  rw [join_snoc, flat_snoc, ka, ← ih, kf]
  rcases end_or (joinR L) with c | ⟨l, q, c⟩
  · rw [c, jstep_nil, show [p] = [] ++ [p] from rfl, flat_snoc, ka, kf]
  · rw [c, jstep_end]
    split
    · rename_i h
      rw [flat_snoc, flat_snoc, ka, ka, kf, kf, h.2, or_assoc, or_self]
    · rw [flat_snoc, ka, kf]
/-! ### the sizes in runs -/
def addK (acc : List Int) (s : Int) : List Int := if s ∈ acc then acc else acc ++ [s]
def SK (L : List PRun) : List Int := (keysT (flatP L)).foldl addK []
def trueT (ks : List Int) : List (Key × D) := ks.map fun s => (.inl s, .bool true)
theorem flat_cons (x : PRun) (L : List PRun) : flatP (x :: L) = x.2.2.map (fun q => (q.1, x.2.1 * q.2)) ++ flatP L := by unfold flatP; rw [List.flatMap_cons]
theorem keys_fill (f : Tab) (a : Int) : keysT (f.map fun q => (q.1, a * q.2)) = keysT f := by
  unfold keysT
  rw [List.map_map]
  rfl
theorem put_true (ks : List Int) (s : Int) : putD (trueT ks) (.inl s) (.bool true) = trueT (addK ks s) := by
  unfold putD addK trueT
  have hany : ((ks.map fun s => ((.inl s : Key), D.bool true)).any fun kv => decide (kv.1 = .inl s)) = decide (s ∈ ks) := by
    rw [List.any_map]
    by_cases h : s ∈ ks
    · rw [decide_eq_true h]
      exact List.any_eq_true.mpr ⟨s, h, by simp⟩
    · rw [decide_eq_false h]
      refine List.any_eq_false.mpr fun z hz => ?_
      simp only [Function.comp, decide_eq_true_eq]
      intro e
      cases e
      exact h hz
  rw [hany]
  by_cases h : s ∈ ks
  · rw [if_pos (by simp [h]), if_pos h, List.map_map]
    refine List.map_congr_left fun z _ => ?_
    show (if ((.inl z : Key) = .inl s) then _ else _) = _
    split <;> rfl
  · rw [if_neg (by simp [h]), if_neg h, List.map_append]
    rfl
theorem addK_mem {acc : List Int} {s k : Int} : k ∈ addK acc s ↔ k ∈ acc ∨ k = s := by
  unfold addK
  split
  · rename_i h
    exact ⟨.inl, fun z => z.elim id fun e => e ▸ h⟩
  · simp
theorem addK_nd {acc : List Int} {s : Int} (h : acc.Nodup) : (addK acc s).Nodup := by
  unfold addK
  split
  · exact h
  · rename_i n
    refine List.nodup_append.mpr ⟨h, by simp, fun a ha b hb e => ?_⟩
    rw [List.mem_singleton] at hb
    exact n (by rw [← hb, ← e]; exact ha)
theorem foldK (ks : List Int) : ∀ acc : List Int, acc.Nodup → (ks.foldl addK acc).Nodup ∧ (∀ k, k ∈ ks.foldl addK acc ↔ k ∈ acc ∨ k ∈ ks) ∧ (ks.foldl addK acc).length ≤ acc.length + ks.length := by
  induction ks with
  | nil => exact fun acc h => ⟨h, fun k => by simp, by simp⟩
  | cons s r ih =>
    intro acc h
    obtain ⟨h1, h2, h3⟩ := ih (addK acc s) (addK_nd h)
    rw [List.foldl_cons]
    refine ⟨h1, fun k => ?_, ?_⟩
    · rw [h2, addK_mem, List.mem_cons, or_assoc]
    · have : (addK acc s).length ≤ acc.length + 1 := by
        unfold addK
        split <;> simp
      rw [List.length_cons]
      omega
theorem foldK' (ks : List Int) : ∀ acc : List Int, (ks.foldl addK acc).length ≤ acc.length + ks.length := by
  induction ks with
  | nil => exact fun acc => by simp
  | cons s r ih =>
    intro acc
    have h3 := ih (addK acc s)
    rw [List.foldl_cons]
    have : (addK acc s).length ≤ acc.length + 1 := by
      unfold addK
      split <;> simp
    rw [List.length_cons]
    omega
theorem SK_facts (L : List PRun) : (SK L).Nodup ∧ ∀ k, k ∈ SK L ↔ k ∈ keysT (flatP L) := by
  obtain ⟨h1, h2, _⟩ := foldK (keysT (flatP L)) [] (by simp)
  exact ⟨h1, fun k => (h2 k).trans (by simp)⟩
theorem SK_few {L : List PRun} {U : List Int} (h : ∀ k, k ∈ keysT (flatP L) → k ∈ U) : (SK (joinR L)).length ≤ U.length := by
  obtain ⟨h1, h2⟩ := SK_facts (joinR L)
  exact nodup_sub h1 fun k hk => h k ((keys_join L k).mp ((h2 k).mp hk))
/-- all fillings of runs that are joined were there -/
theorem join_fill {L : List PRun} {P : Tab → Prop} (h : ∀ x, x ∈ L → P x.2.2) : ∀ x, x ∈ joinR L → P x.2.2 := by
  refine snocI (P := fun L => (∀ x, x ∈ L → P x.2.2) → ∀ x, x ∈ joinR L → P x.2.2) (fun _ x hx => by cases hx) (fun L p ih h => ?_) L h
  have ih := ih fun x hx => h x (List.mem_append_left _ hx)
  have hp := h p (by simp)
  rw [join_snoc]
  rcases end_or (joinR L) with c | ⟨l, q, c⟩
  · rw [c, jstep_nil]
    intro x hx
    rw [List.mem_singleton] at hx
    rw [hx]; exact hp
  · rw [c] at ih ⊢
    rw [jstep_end]
    split
    · intro x hx
      rcases List.mem_append.mp hx with z | z
      · exact ih x (List.mem_append_left _ z)
      · rw [List.mem_singleton] at z
        rw [z]; exact hp
    · intro x hx
      rcases List.mem_append.mp hx with z | z
      · exact ih x z
      · rw [List.mem_singleton] at z
        rw [z]; exact hp
theorem flatP_len {L : List PRun} (h : ∀ x, x ∈ L → fillOk x.2.2) : (flatP L).length ≤ 12 * L.length := by
  induction L with
  | nil => simp [flatP]
  | cons x r ih =>
    rw [flat_cons, List.length_append, List.length_map, List.length_cons]
    have := ih fun z hz => h z (List.mem_cons_of_mem _ hz)
    have := (h x List.mem_cons_self).1
    omega
end DL
set_option Elab.async false
set_option linter.all false
set_option maxRecDepth 100000
set_option maxHeartbeats 4000000
/-! DL121: xs[::-1] of a list as an own fresh list. -/
namespace DL
open PySem PySem.Spec PyProof.Rows L2
variable [TabsC]
def mRevL (ma : TM) : TM := fun δ Q E => ma δ (fun d => ∃ ds, d = .list ds ∧ Q (.list ds.reverse)) E
end DL
set_option Elab.async false
set_option linter.all false
set_option maxRecDepth 100000
set_option maxHeartbeats 4000000
/-! DL122: the room of a thing of a packing. -/
namespace DL
open PySem PySem.Spec PyProof.Rows L2
end DL
set_option Elab.async false
set_option linter.all false
set_option maxRecDepth 100000
set_option maxHeartbeats 4000000
/-! DL123: the single rooms of a packing, and the rooms of its things one by one. -/
namespace DL
open PySem PySem.Spec PyProof.Rows L2
end DL
set_option Elab.async false
set_option linter.all false
set_option maxRecDepth 100000
set_option maxHeartbeats 4000000
/-! DL124: list(o) of a class with one slot whose __iter__ gives iter(self.slot). -/
namespace DL
open PySem PySem.Spec PyProof.Rows L2
variable [TabsC]
def mListS (n : Str) (mL : FM) (ma : TM) : TM := fun δ Q E => ma δ (fun a => ∃ w : D, a = .sob n w ∧ mL [a] (fun r => ∃ i : Int, r = .int i ∧ 0 ≤ i ∧ i < 2 ^ 24) NoE ∧ srcD w fun ds => Q (.list ds)) E
end DL
set_option Elab.async false
set_option linter.all false
set_option maxRecDepth 100000
set_option maxHeartbeats 4000000
/-! DL125: sums, texts and turns of packings; fillings of any data. -/
namespace DL
open PySem PySem.Spec PyProof.Rows L2
variable [TabsC]
/-! ### sums -/
/-! ### texts -/
/-! ### the other way round -/
/-! ### equality -/
/-! ### fillings of any data -/
def partB : D → Bool
  | .tup [a, b] => sizD a && sizD b
  | _ => false
def fstI : D → Int
  | .tup (a :: _) => iOf a
  | _ => 0
def fillB : D → Bool
  | .tup xs => decide (xs.length ≤ 12) && xs.all partB && ascL (xs.map fstI)
  | _ => false
theorem part_tab : ∀ {xs : List D}, xs.all partB = true → ∃ T : Tab, xs = T.map pairD ∧ ∀ p, p ∈ T → (1 ≤ p.1 ∧ p.1 < 10 ^ 200) ∧ 1 ≤ p.2 ∧ p.2 < 10 ^ 200
  | [], _ => ⟨[], rfl, fun p hp => by cases hp⟩
  | x :: xs, h => by
    rw [List.all_cons, Bool.and_eq_true] at h
    obtain ⟨T, rfl, hT⟩ := part_tab h.2
    have hx := h.1
    unfold partB at hx
    split at hx
    · rename_i a b
      rw [Bool.and_eq_true] at hx
      obtain ⟨i, rfl, hi⟩ := siz_int hx.1
      obtain ⟨j, rfl, hj⟩ := siz_int hx.2
      refine ⟨(i, j) :: T, rfl, fun p hp => ?_⟩
      rcases List.mem_cons.mp hp with rfl | hp
      · exact ⟨hi, hj⟩
      · exact hT p hp
    · cases hx
end DL
set_option Elab.async false
set_option linter.all false
set_option maxRecDepth 100000
set_option maxHeartbeats 4000000
/-! DL126: a last parameter by name only, with a default; methods called by name. -/
namespace DL
open PySem PySem.Spec PyProof.Rows L2
variable [TabsC]
/-- the last one is the default -/
def mDK (n : Nat) (dd : D) (m : FM) : FM := fun ds Q E => ds.length = n ∧ m (ds ++ [dd]) Q E
section
variable {X : Cx} {W : WX} {e o : Expr} {es : List Expr} {kws : List Keyword} {ba : Bool} {mo : TM} {la lk : LM} {pos apos : Pos} {n mn : Str} {k nn l : Nat} {C g : Addr} {m : FM} {ks : List Str}
/-- o.m(e, .., k = v), o of a class with one slot -/
def mMethSK (n : Str) (m : FM) (nn l : Nat) (mo : TM) (la lk : LM) : TM := fun δ Q E => mo δ (fun d => ∃ v : D, d = .sob n v ∧ la δ (fun ds => lk δ (fun es => ds.length + 1 = nn ∧ es.length = l ∧ m (d :: ds ++ es) Q E) E) E) E
end
end DL
set_option Elab.async false
set_option linter.all false
set_option maxRecDepth 100000
set_option maxHeartbeats 4000000
/-! DL127: looking at runs and fillings of any data. -/
namespace DL
open PySem PySem.Spec PyProof.Rows L2
variable [TabsC]
/-- flat enough to be asked for its kind -/
def okFB (d : D) : Bool := d.tyn.isSome && match d with
  | .tup xs => xs.all fun x => x.tyn.isSome && match x with
    | .tup ys => ys.all fun y => y.tyn.isSome
    | _ => true
  | _ => true
end DL
set_option Elab.async false
set_option linter.all false
set_option maxRecDepth 100000
set_option maxHeartbeats 4000000
/-! DL128: instances of one's own that their methods write: y = o.m(e, ..); a self that is lent on while an expression is reckoned; y = a if c else b; a[k], y = e. -/
namespace DL
open PySem PySem.Spec PyProof.Rows L2
variable [TabsC]
section
variable {X : Cx} {W : WX} {a b c e : Expr} {es : List Expr} {ba : Bool} {ma mb mk : TM} {nc : BM} {la : LM} {pos p apos : Pos} {n mn x y : Str} {k : Nat} {C g : Addr} {m m1 m2 : SM} {mm : MM}
/-! ### values whose reckoning ends in y = .. -/
def tSt (K : PySem.W.Frag) (W : WX) (j : Nat) (m : SM) : TE := fun σ H Q => ∃ (F : Fm) (own : List Addr) (δ : List DV) (k : KD) (D : Ends), EnvD K F own σ δ H ∧ m δ k ∧ LinkS K W F k D ∧ ∀ v H', D.nx (σ.set j (some v)) H' → Q v H'
def DSE (X : Cx) (W : WX) (j : Nat) (e : Expr) (m : SM) : Prop := PE X e (tSt X.K W j m)
theorem ds_setE (j : Nat) {y : Str} {pos' : Pos} (hN : X.N.Nodup) (he : DSE X W j e m) (hi : X.N[j]? = some y := by rfl) (hx : Loc X.env.scope y := by first | exact .inl rfl | exact .inr rfl) (hs : swapsWith e (some (.Name y pos')) pos.line X.env = pure false := by rfl)
    (hf : X.fn y = true ∨ X.env.scope.names.lookup y = some .local := by first | exact .inl rfl | exact .inr rfl) : DS X W (.Assign [.Name y pos'] e pos) m :=
  PS.imp (ps_set hN hi hx he hs hf) fun D σ H ⟨F, own, δ, k, E, h, L⟩ => ⟨F, own, δ, k, D, E, h, L, fun v H' q => q⟩
theorem dse_of (j : Nat) (he : DE X W e false ma) : DSE X W j e (sSet j ma) :=
  PE.imp he fun σ H Q ⟨F, own, δ, k, D, E, h, L, q⟩ => ⟨F, own, δ, _, _, L.at E, h, fun d v H' p s r => q _ _ (L.nx _ H' own _ ((E.grow s).set j r.clean) p)⟩
theorem dse_if (j : Nat) (hc : DT X W c nc) (ha : DSE X W j a m1) (hb : DSE X W j b m2) : DSE X W j (.IfExp c a b pos) (sIf nc m1 m2) :=
  PE.imp (pe_ifExp hc ha hb) fun σ H Q ⟨F, own, δ, k, D, E, h, L, q⟩ => ⟨F, own, δ, _, _, L.at E, h, fun c H' p s => by
    cases c with
    | true => exact iteT ⟨F, own, δ, k, D, E.grow s, (by simpa using p), L, q⟩
    | false => exact iteF ⟨F, own, δ, k, D, E.grow s, (by simpa using p), L, q⟩⟩
/-! ### o.m(e, ..), m may write o -/
theorem pe_callM {pl : Sem Bool} {sp : Sp} {t : TA} (i : Nat) (cl : Cls X.K C) (F : FnP X.prog X.w X.K X.mg X.base k g sp) (hm : Meth X.K C mn g) (hG : GdOk X.A X.base) (hr : Room k X.A) (tk : Takes X W) (ho : PE X (.Name x p) (tVar i)) (ha : PA X (e :: es) t)
    (hst : starEach (e :: es) X.env = (false, eval e X.env) :: starEach es X.env := by rfl) (hpl : (backTo pos (starEach es X.env)).any (·.1) = false := by rfl)
    (ht : eval (.Call (.Attribute (.Name x p) mn apos) (e :: es) [] pos) X.env = (do
      let ov ← eval (.Name x p) X.env
      standAt apos.atName
      let (f, first) ← holding [ov] (getMethod ov mn pl)
      callWith pos f first (backTo pos (starEach (e :: es) X.env)) (backToKw pos (keywordEach [] X.env))) := by rfl) :
    PE X (.Call (.Attribute (.Name x p) mn apos) (e :: es) [] pos) (fun σ H Q => ∃ a dx fs, σ[i]? = some (some (.ref a)) ∧ H a = some (.ins C dx fs) ∧ fs.lookup mn = none ∧ t σ H fun ws H2 => sp (.ref a :: ws) H2 Q fun cls dd H' => W cls dd σ H') := by
  refine ⟨fun pins s σ H Q I ⟨a, dx, fs, hs, ha1, hl0, q⟩ => ?_⟩
  refine PySem.W.methodCall_KW (pl := pl) (thn (ho.run pins s σ H (fun x H1 => x = .ref a ∧ H1 = H) I ⟨_, hs, rfl, rfl⟩) fun u s1 ⟨x, H1, I1, rx, ex, eH⟩ => ?_) ht
  subst ex eH
  obtain rfl : u = Value.ref a := rx
  refine getmeth_ok I1 ha1 cl hm hl0 ?_
  refine PySem.W.callWith_K (first := [.ref a]) (h₀ := X.base) I1.ok.mod.kin hm.kp (thn (ha.run pos pins s1 σ H1 (fun ws H2 => sp (.ref a :: ws) H2 Q fun cls dd H' => W cls dd σ H') I1 q) fun us s2 ⟨ws, H2, I2, rv, hsp⟩ => ⟨I2.kIn, ?_⟩) hst hpl
  exact runP (us := .ref a :: us) (vs := .ref a :: ws) F hG hr tk (fun _ _ _ h => h) I2 (.cons rfl rv) hsp
def sCallM (i j : Nat) (n mn : Str) (m : MM) (la : LM) : SM := fun δ k => ∃ fs : List (Str × D), δ[i]? = some (.m (.obj n fs)) ∧ fs.lookup mn = none ∧ la δ (fun ds => m (.obj n fs) ds (fun self' r => k.nx ((δ.set i (.m self')).set j (.v r))) (fun self' er => k.er (δ.set i (.m self')) er)) (k.er δ)
theorem dse_callM {pl : Sem Bool} (i j : Nat) (hC : PySem.W.nsIn X.K mainGlobals n = some (some (.ref C))) (cl : Cls X.K C) (F : FnM X.prog X.w X.K X.mg X.base k g mm) (hm : Meth X.K C mn g) (hG : GdOk X.A X.base) (hr : Room k X.A) (tk : Takes X W) (ho : PE X (.Name x p) (tVar i)) (ha : DA X W (e :: es) false la)
    (hst : starEach (e :: es) X.env = (false, eval e X.env) :: starEach es X.env := by rfl) (hpl : (backTo pos (starEach es X.env)).any (·.1) = false := by rfl)
    (ht : eval (.Call (.Attribute (.Name x p) mn apos) (e :: es) [] pos) X.env = (do
      let ov ← eval (.Name x p) X.env
      standAt apos.atName
      let (f, first) ← holding [ov] (getMethod ov mn pl)
      callWith pos f first (backTo pos (starEach (e :: es) X.env)) (backToKw pos (keywordEach [] X.env))) := by rfl) :
    DSE X W j (.Call (.Attribute (.Name x p) mn apos) (e :: es) [] pos) (sCallM i j n mn mm la) :=
  PE.imp (pe_callM (pl := pl) i cl F hm hG hr tk ho ha hst hpl ht) fun σ H Q ⟨F, own, δ, k, D, E, ⟨fs, h0, hl0, h⟩, L, q⟩ => by
    obtain ⟨C', a, dx, vs, hC', hs, hao, h1, h2⟩ := own_obj E h0
    rw [hC] at hC'
    cases hC'
    refine ⟨a, dx, vs, hs, h1, h2.miss hl0, F, own, δ, _, _, L.at E, h, fun ds ws H2 p2 s2 r2 => ?_⟩
    have E2 := E.grow s2
    have hin : a ∈ F.ls0 ++ own := List.mem_append_right _ hao
    have h1' : H2 a = some (.ins C dx vs) := s2 _ _ h1
    refine ⟨F.ls0 ++ own, a, C, dx, n, ws, vs, fs, ds, _, _, rfl, hin, E2.trk, E2.tabs, hC, h1', h2.mono (sub_same s2.ob), r2.clean, p2, fun n' dfs' d v H' C' dx' fs' pd hn' s3 hx' rf rv => ?_, fun n' dfs' er cls dd H' C' dx' fs' ke hn' s3 hx' rf re => ?_⟩
    · have E3 := E2.turn h0 hs h1' plain_of s3 hx' (.mo (E.sep a hao) hn' hx' rf)
      exact q v H' (L.nx _ H' own _ (E3.set j rv) pd)
    · have E3 := E2.turn h0 hs h1' plain_of s3 hx' (.mo (E.sep a hao) hn' hx' rf)
      exact L.er er cls dd σ H' own _ E3 ke re
/-! ### a lent self, lent on while an expression is reckoned: it is not written -/
def mLendS (i : Nat) (m : TM) : TM := fun δ Q _ => ∃ d, δ[i]? = some (.s d) ∧ m (δ.set i (.v d)) (fun r => r.isPy = true ∧ Q r) NoE
theorem RV.fo_less {K : PySem.W.Frag} {fo fo' ls ls' : List Addr} {H : Hp} {b : Bool} {v : V} {d : D} (hf : ∀ l, l ∈ fo' → l ∈ fo) (hl : ∀ l, l ∈ ls' → l ∈ ls) (r : RV K fo ls H b v d) : RV K fo' ls' H b v d := by
  have g : Grow (sub H ls) (sub H ls') := sub_less hl
  cases r with
  | cl r => exact .cl (r.mono g)
  | ml n p q r => exact .ml (fun z => n (hf _ z)) p q (r.mono g)
  | md n p q r => exact .md (fun z => n (hf _ z)) p q (r.mono g)
  | mt n p q r => exact .mt (fun z => n (hf _ z)) p q (r.mono g)
  | mo n c p r => exact .mo (fun z => n (hf _ z)) c p (r.mono g)
theorem de_lendS (i : Nat) (h : DE X W e false ma) : DE X W e false (mLendS i ma) := by
  refine ⟨fun pins s σ H Q I ⟨F, own, δ, P, EK, A, ⟨d, hi, hm⟩, q⟩ => ?_⟩
  have E := A.env
  obtain ⟨s0, e1, a, C, dx, n, fs, ds, e2, ha, ed, hC, hH, rf⟩ := E.slot i _ hi
  subst e2 ed
  let F' : Fm := ⟨F.ls0.filter fun b => decide (b ≠ a), F.H0, F.Hi⟩
  have sub1 : ∀ l, l ∈ F'.ls0 → l ∈ F.ls0 := fun l hl => (List.mem_filter.mp hl).1
  have sub2 : ∀ l, l ∈ F'.ls0 ++ own → l ∈ F.ls0 ++ own := fun l hl => by
    rcases List.mem_append.mp hl with z | z
    · exact List.mem_append_left _ (sub1 l z)
    · exact List.mem_append_right _ z
  have le : Grow (sub H (F.ls0 ++ own)) (sub H (F'.ls0 ++ own)) := sub_less sub2
  have out : a ∉ F'.ls0 ++ own := fun z => by
    rcases List.mem_append.mp z with z | z
    · have := (List.mem_filter.mp z).2
      simp at this
    · exact E.sep a z ha
  have E' : EnvD X.K F' own σ (δ.set i (.v (.obj n ds))) H := by
    refine ⟨E.same, E.imm.trans le, E.tabs, E.new, fun l hl => E.trk l (sub2 l hl), fun l hl z => E.sep l hl (sub1 l z), by rw [List.length_set]; exact E.len, fun j dv hj => ?_, E.lent_set (fun d z => by cases z) (fun _ _ => rfl), E.alone_set (fun d z => by cases z) (fun _ _ => rfl), fun j k dj dk b h1 h2 h3 h4 => ?_⟩
    · rcases set_get hj with ⟨rfl, _, rfl⟩ | ⟨ne, hj⟩
      · exact ⟨_, e1, _, rfl, .obj hC (by rw [sub_out out]; exact hH) (rf.mono le)⟩
      · obtain ⟨s1, q1, q⟩ := E.slot j dv hj
        refine ⟨s1, q1, ?_⟩
        cases dv with
        | u => trivial
        | v d => obtain ⟨x, q2, r2⟩ := q; exact ⟨x, q2, r2.mono le⟩
        | m d2 =>
          obtain ⟨c, q2, hc, r2⟩ := q
          exact ⟨c, q2, hc, r2.fo_less sub1 sub2⟩
        | s d2 =>
          obtain ⟨b, C', dx', n', fs', ds', q2, h1, h2, h3, h4, r⟩ := q
          subst q2
          have nba : b ≠ a := fun z => ne (E.alone j i d2 _ a hj hi (by rw [q1, z]) e1)
          exact ⟨b, C', dx', n', fs', ds', rfl, List.mem_filter.mpr ⟨h1, by simpa using nba⟩, h2, h3, h4, r.mono le⟩
    · rcases set_get h1 with ⟨_, _, z⟩ | ⟨n1, h1⟩
      · cases z
      rcases set_get h2 with ⟨_, _, z⟩ | ⟨n2, h2⟩
      · cases z
      exact E.apart j k dj dk b h1 h2 h3 h4
  refine h.run pins s σ H Q I ⟨F', own, _, _, NoE, ⟨E', noPass⟩, hm, fun r v H' ⟨hp, pr⟩ s1 r1 => q r v H' pr s1 (.cl ?_)⟩
  have rr : Rep X.K (sub H' (F'.ls0 ++ own)) v r := r1.clean
  have ha' : H' a = some (.ins C dx fs) := s1 _ _ hH
  refine Rep.py_mono (fun b o hb ho => ?_) rr hp
  by_cases hin : b ∈ F.ls0 ++ own
  · exfalso
    by_cases z : b = a
    · rw [z, sub_out out, ha'] at hb
      cases hb
      cases ho
    · have : b ∈ F'.ls0 ++ own := by
        rcases List.mem_append.mp hin with w | w
        · exact List.mem_append_left _ (List.mem_filter.mpr ⟨w, by simpa using z⟩)
        · exact List.mem_append_right _ w
      rw [sub_in this] at hb
      cases hb
  · rw [sub_out (fun z => hin (sub2 b z))] at hb
    rw [sub_out hin]
    exact hb
/-! ### a new container, by a test -/
theorem df_if (hc : DT X W c nc) (ha : DF X W a ma) (hb : DF X W b mb) : DF X W (.IfExp c a b pos) (mIf nc ma mb) :=
  PE.imp (pe_ifExp hc ha hb) fun σ H Q ⟨F, own, δ, P, EK, A, m, q⟩ => ⟨F, own, δ, _, EK, A, m, fun c H' p s => by
    cases c with
    | true => exact iteT ⟨F, own, δ, _, EK, A.on s, (by simpa using p), fun d p' H2 pd hp s2 r2 => q d p' H2 pd (s.free hp) (s.trans s2) r2⟩
    | false => exact iteF ⟨F, own, δ, _, EK, A.on s, (by simpa using p), fun d p' H2 pd hp s2 r2 => q d p' H2 pd (s.free hp) (s.trans s2) r2⟩⟩
/-! ### targets that write a dict of one's own -/
def tgm2 (K : PySem.W.Frag) (g : GM) : TG := fun v σ H Q => ∃ (F : Fm) (own : List Addr) (δ : List DV) (d : D) (P : List DV → Prop), EnvD K F own σ δ H ∧ Rep K (sub H (F.ls0 ++ own)) v d ∧ g d δ P ∧ ∀ σ' δ' H', EnvD K F own σ' δ' H' → Grow (sub H (F.ls0 ++ own)) (sub H' (F.ls0 ++ own)) → P δ' → Q σ' H'
def tgms2 (K : PySem.W.Frag) (g : GMs) : TGs := fun vs σ H Q => ∃ (F : Fm) (own : List Addr) (δ : List DV) (ds : List D) (P : List DV → Prop), EnvD K F own σ δ H ∧ Reps K (sub H (F.ls0 ++ own)) vs ds ∧ g ds δ P ∧ ∀ σ' δ' H', EnvD K F own σ' δ' H' → Grow (sub H (F.ls0 ++ own)) (sub H' (F.ls0 ++ own)) → P δ' → Q σ' H'
def DG2 (X : Cx) (e : Expr) (g : GM) : Prop := PG X e (tgm2 X.K g)
def DGs2 (X : Cx) (es : List Expr) (g : GMs) : Prop := PGs X es (tgms2 X.K g)
theorem dg2_name (i : Nat) (h : PG X (.Name x pos) (gName i)) : DG2 X (.Name x pos) (gN i) := PG.imp h fun v σ H Q ⟨F, own, δ, d, P, E, r, g, q⟩ => q _ _ _ (E.set i r) (Grow.refl _) g
def gPut (i : Nat) (mk : TM) : GM := fun d δ P => ∃ ds : List (Key × D), δ[i]? = some (.m (.dict ds)) ∧ mk δ (fun kd => ∃ key : Key, kd = keyD key ∧ ds.length < sizeLine ∧ P (δ.set i (.m (.dict (putD ds key d))))) NoE
theorem dg2_put (i : Nat) {ie : Expr} {bb : Bool} (hu : X.A.units + 1 < cLine) (ho : PE X (.Name x p) (tVar i)) (hi : DE X W ie bb mk)
    (ha : ∀ v, assign (.Subscript (.Name x p) ie pos) X.env v = (do
      let ov ← holding [v] (eval (.Name x p) X.env)
      let iv ← holding [v, ov] (eval ie X.env)
      standAt pos
      holding [v, ov, iv] (setItem ov iv v)
      release [v, ov, iv] []) := by intro _; rfl) : DG2 X (.Subscript (.Name x p) ie pos) (gPut i mk) :=
  PG.imp (pg_sub ho hi (set_dict hu) ha) fun v σ H Q ⟨F, own, δ, d, P, E, r, ⟨ds, hd, m1⟩, q⟩ => by
    obtain ⟨a, kvs, e1, ha, h1, h2, h3⟩ := E.dic hd
    refine ⟨_, e1, F, own, δ, _, NoE, ⟨E, noPass⟩, m1, fun kd kv H2 ⟨key, ek, hz, m2⟩ s2 r2 => ?_⟩
    subst ek
    have ekv := kV_of r2
    subst ekv
    have h1' := s2 _ _ h1
    have hz' : kvs.length < sizeLine := by rw [h3.len]; exact hz
    have hin := List.mem_append_right F.ls0 ha
    refine ⟨a, _, rfl, .inl ⟨kvs, key, h1', rfl, hz', rfl⟩, q _ _ _ ((E.grow s2).put hd e1 h1' (.md (E.sep a ha) upd_same ?_ ?_)) ?_ m2⟩
    · have := putK_len kvs key v
      omega
    · rw [sub_upd hin]
      exact (h3.mono (sub_same s2)).put (r.mono (sub_same s2))
    · rw [sub_upd hin]
      exact sub_same s2.ob
theorem dgs2_nil : DGs2 X [] gsNil := PGs.imp pgs_nil fun vs σ H Q ⟨F, own, δ, ds, P, E, r, g, q⟩ => by
  obtain ⟨rfl, g⟩ := g
  cases r
  exact ⟨rfl, q _ _ _ E (Grow.refl _) g⟩
theorem dgs2_cons {g : GM} {gs : GMs} (h1 : DG2 X e g) (h2 : DGs2 X es gs) (hs : (assignEach (e :: es) X.env).map (·.2) = assign e X.env :: (assignEach es X.env).map (·.2) := by rfl) : DGs2 X (e :: es) (gsCons g gs) :=
  PGs.imp (pgs_cons h1 h2 hs) fun vs σ H Q ⟨F, own, δ, ds, P, E, r, g, q⟩ => by
    obtain ⟨d, dr, rfl, g⟩ := g
    cases r with
    | cons r rr => exact ⟨_, _, rfl, F, own, δ, d, _, E, r, g, fun σ' δ' H' E' gr g' => ⟨F, own, δ', dr, P, E', rr.mono gr, g', fun σ2 δ2 H2 E2 gr2 p2 => q _ _ _ E2 (gr.trans gr2) p2⟩⟩
theorem dg2_tup {j : Nat} {gs : GMs} {n : Nat} (hc : X.calm = true) (h : DGs2 X es gs) (hn : (assignEach es X.env).length = n := by rfl) (hst : (assignEach es X.env).findIdx? (·.1) = none := by rfl) : DG2 X (.Tuple es j pos) (gT n gs) :=
  PG.imp (pg_tup hc h hn hst) fun v σ H Q ⟨F, own, δ, d, P, E, r, g, q⟩ => by
    obtain ⟨ds, rfl, hl, g⟩ := g
    cases r with
    | tup h1 h2 h3 => exact ⟨_, _, rfl, sameT sub_le h1, by rw [h3.length]; exact hl, F, own, δ, ds, P, E, h3, g, q⟩
theorem ds_asg2 {tg : Expr} {g : GM} (he : DE X W e false ma) (hg : DG2 X tg g) (hs : swapsWithSole [tg] e pos.line X.env = pure false := by rfl) (hw : swappedStores [tg] e X.env = pure none := by rfl)
    (h1 : (assignEach [tg] X.env).map (·.2) = [assign tg X.env] := by rfl) : DS X W (.Assign [tg] e pos) (sAsg ma g) :=
  PS.imp (ps_asg he hg hs hw h1) fun D σ H ⟨F, own, δ, k, E, h, L⟩ => ⟨F, own, δ, _, _, L.at E, h, fun d v H1 p s r => ⟨F, own, δ, d, _, E.grow s, r.clean, p, fun σ' δ' H' E' _ pd => L.nx σ' H' own δ' E' pd⟩⟩
end
end DL
set_option Elab.async false
set_option linter.all false
set_option maxRecDepth 100000
set_option maxHeartbeats 4000000
/-! DL130: constants that are tuples of texts; an expression that is never reckoned. -/
namespace DL
open PySem PySem.Spec PyProof.Rows L2
variable [TabsC]
theorem reps_strs {K : PySem.W.Frag} {H : Hp} (xs : List Str) : Reps K H (xs.map V.str) (xs.map D.str) := by
  induction xs with
  | nil => exact .nil
  | cons x xs ih => exact .cons (.str x) ih
theorem rep_ct {K : PySem.W.Frag} {H : Hp} {a : Addr} {xs : List Str} (h : CT K a xs) : Rep K H (.ref a) (.tup (xs.map D.str)) := by
  obtain ⟨o, its, n, h1, h2, h3, h4, h5⟩ := h
  exact .tup (.inr ⟨o, its, n, h1, h2, h3, h4, h5⟩) (by rw [h5.length, Array.length_toList]; exact h4) (reps_strs xs)
def mBot : TM := fun _ _ _ => False
theorem de_bot {X : Cx} {W : WX} {e : Expr} : DE X W e false mBot := ⟨fun pins s σ H Q I ⟨F, own, δ, P, EK, A, h, q⟩ => h.elim⟩
/-! ### a text in a tuple of texts -/
def fInTS (neg : Bool) (x y : D) (Q : Bool → Prop) : Prop := ∃ (z : Str) (zs : List Str), x = .str z ∧ y = .tup (zs.map D.str) ∧ Q (neg ^^ decide (z ∈ zs))
theorem inV_strs (i : Str) : ∀ ns : List Str, inV (.str i) (ns.map V.str) = decide (i ∈ ns)
  | [] => by simp [inV]
  | n :: ns => by
    rw [List.map_cons, inV_cons, inV_strs i ns, show eqV (.str n) (.str i) = (n == i) from rfl]
    by_cases e : n = i
    · simp [e]
    · have e' : ¬ i = n := fun z => e z.symm
      simp [e, e']
theorem flat_strs : ∀ ns : List Str, (ns.map V.str).all flatV = true
  | [] => rfl
  | n :: ns => by simp only [List.map_cons, List.all_cons, flat_strs ns]; rfl
theorem of_strs {K : PySem.W.Frag} {H : Hp} : ∀ {xs : List V} {ns : List Str}, Reps K H xs (ns.map D.str) → xs = ns.map V.str
  | _, [], .nil => rfl
  | _, n :: ns, .cons r h => by
    rw [List.map_cons, of_strs h]
    cases r
    rfl
theorem link_inTS {X : Cx} {neg : Bool} : LinkCmp X.K (rInX X.K neg) (fInTS neg) := by
  intro fo ls H x y dx dy P Q rx ry ⟨z, zs, e1, e2, h⟩ q
  subst e1 e2
  obtain ⟨a, xs, rfl, h1, h2, h3⟩ := ry.tup
  rw [of_strs h3] at h1
  refine .inr (.inr ⟨a, _, rfl, .inr h1, by rw [rx.isStr]; rfl, flat_strs zs, ?_⟩)
  rw [rx.isStr, inV_strs]
  exact q _ h
/-! ### f(a, .., k = b), the number of names apart (so that a lambda's body can be read) -/
theorem de_callKl {X : Cx} {W : WX} {e : Expr} {es : List Expr} {kws : List Keyword} {la lk : LM} {p pos : Pos} {x : Str} {k n l : Nat} {f : Addr} {m : FM} {ks : List Str}
    (F : FnK X.prog X.w X.K X.mg X.base k f n ks m) (hG : GdOk X.A X.base) (hr : Room k X.A) (tk : Takes X W) (hg : Gl X x) (hm : X.mg x = some (.ref f)) (hk : PySem.W.keepIn X.K (.ref f) = true)
    (ha : DA X W (e :: es) false la) (hkw : DK X W kws lk) (hall : (backToKw pos (keywordEach kws X.env)).all (·.1.isSome) = true := by rfl) (hks : (backToKw pos (keywordEach kws X.env)).filterMap (·.1) = ks := by rfl)
    (hdb : (x == ("__debug__" : Str)) = false := by decide) (he : starEach (e :: es) X.env = (false, eval e X.env) :: starEach es X.env := by rfl)
    (hpl : ((backTo pos (starEach (e :: es) X.env)).any (·.1) || (backToKw pos (keywordEach kws X.env)).any (·.1.isNone)) = false := by rfl) (hl : ks.length = l := by rfl) : DE X W (.Call (.Name x p) (e :: es) kws pos) false (mCallK m n l la lk) := by
  subst hl
  exact de_callK F hG hr tk hg hm hk ha hkw hall hks hdb he hpl
end DL
set_option Elab.async false
set_option linter.all false
set_option maxRecDepth 100000
set_option maxHeartbeats 4000000
namespace DL.Law
open DL
open PySem PySem.Spec PyProof.Rows L2
variable [TabsC]
local macro_rules | `(tactic| walk_at "dl") => `(tactic| simp only [DL.sSeq, DL.sSet, DL.sSetM, DL.sNext, DL.sFalse, DL.sBreak, DL.sCont, DL.sExpr, DL.sRet, DL.sRetN, DL.sIf, DL.sAsg, DL.sPar, DL.sParM, DL.sPar3, DL.sApp, DL.sExt, DL.sFor, DL.sFrz, DL.frzD, DL.mC, DL.mVar, DL.mMut, DL.mBin, DL.mCmp, DL.mCmpT, DL.mChain, DL.mChainT, DL.mTest, DL.mVal, DL.mNotT, DL.mAndT, DL.mOrT, DL.mAnd, DL.mOr, DL.mIf, DL.mNil, DL.mCons, DL.mTup, DL.mLst, DL.mB, DL.mCall, DL.mCall0, DL.mThunk, DL.mThk, DL.e_dm0, DL.e_dmv, DL.e_dmu, DL.e_dmm, DL.e_dms, DL.e_dmc, DL.mRepr, DL.sAug, DL.e_fI2, DL.fAugAdd, DL.fAugSub, DL.sRaise, DL.sRaise0, DL.sTry, DL.hsM, DL.hPlain, DL.hAs, DL.mEF, DL.mSFld, DL.sFld, DL.putFD, DL.mMeth0, DL.mProp, DL.mMake, DL.mMakeS, DL.mMakeL, DL.mMakeSL, DL.mCM, DL.mSplit, DL.mSl, DL.mMethS, DL.mMethS0, DL.mPropS, DL.mMakeI, DL.mMakeIS, DL.mFunI, DL.mFunIS, DL.kI, DL.mIsiX, DL.mEqS, DL.mInS, DL.mLenS, DL.mStrS, DL.mEnumL, DL.mSliceS, DL.mIsiC, DL.mIsiT, DL.mKeys, DL.mVals, DL.mItems, DL.mDGet2, DL.mFunD, DL.mFunS, DL.mFunM, DL.mFunMS, DL.endK, DL.endM, DV.s.injEq, DL.fIs, DL.fIsNot, DL.e_nn, DL.e_nt, DL.e_nl, DL.e_ni, DL.e_fIx_1, DL.e_fIx_2, DL.e_fIx_3, DL.e_fIx_4, DL.e_fAdd_1, DL.e_fAdd_2, DL.e_fAdd_3, DL.e_fAdd_4, DL.e_fSub_1, DL.e_fEq_i, DL.e_fNe_i, DL.e_fEq_b, DL.e_fNe_b, DL.e_fI_1, DL.fMul, DL.fDiv, DL.fMod, DL.fPow, DL.e_fCmp_1, DL.e_fCmp_2, DL.fLt, DL.fLe, DL.fGt, DL.fGe, DL.e_fIsB_1, DL.e_fIsNotB_1, DL.e_fLen_1, DL.e_fLen_2, DL.e_fLen_3, DL.e_fLen_4, DL.eAbs, DL.eMax2, DL.eMin2, DL.e_fInt_1, DL.e_fInt_2, DL.fStr, DL.e_fTuple_1, DL.e_fTuple_2, DL.e_fList_1, DL.e_fList_2, DL.mDice, DL.mNeg, DL.mSlice, DL.mNoPart, DL.mPart, DL.e_fSlice_1, DL.e_fSlice_2, DL.mSeq, DL.mRange1, DL.mRange2, DL.mRange3, DL.mSigns, DL.mJoin, DL.mRev, DL.mRevL, DL.mStar, DL.mDGet, DL.mFld, DL.mMeth, DL.sPut, DL.sPutL, DL.sPutT, DL.mCallFn, DL.mCallK, DL.mRepT, DL.mRepU, DL.mCompK, DL.mListVals, DL.mListItems, DL.mCompD, DL.mCompD2, DL.mRep, DL.sParMM, DL.sParVM, DL.mLend, DL.sIfW, DL.e_fAddL, DL.sAppPop, DL.mSumVals, DL.mEqO, DL.mInO, DL.mLenO, DL.mGetO, DL.mFmt, DL.mJs, DL.mJoined, DL.mStrO, DL.mBinO, DL.e_inD, DL.e_lenD, DL.e_listD, DL.e_tupD, DL.e_eqD, DL.e_neD, DL.e_keyI, DL.e_keyS, DL.mFunMD, DL.mMaxLenD, DL.mTupRg1, DL.mTupRg2, DL.mChain3, DL.fSortSet, DL.mZip, DL.mZipM, DL.mEnumT, DL.iOf_int, DL.mZip3, DL.mBestD, DL.gN, DL.gT, DL.gL, DL.gsNil, DL.gsCons, DL.mYes, DL.mComp, DL.wipeD, DL.mDisp, DL.mDStar, DL.mPairs, DL.mpNil, DL.mpCons, DL.startD, DL.mFun, List.getElem?_cons_zero, List.getElem?_cons_succ, List.set_cons_zero, List.set_cons_succ, Option.some.injEq, DV.v.injEq, DV.m.injEq, exists_eq_left', exists_eq_left, List.cons.injEq, and_true, true_and, List.map_cons, List.map_nil, List.length_cons, List.length_nil, List.cons_append, List.nil_append, List.replicate_succ, List.replicate_zero, Nat.reduceSub, Nat.reduceAdd, Nat.zero_add, Nat.zero_le, sizeLine_eq, Nat.reduceLeDiff, Int.reduceLE, Int.reduceLT, DL.p61, Int.reduceNeg, Int.zero_add, D.int.injEq, D.bool.injEq, D.str.injEq, D.list.injEq, D.tup.injEq, D.dict.injEq, DL.mListZip, DL.mListO, DL.mListS, DL.mDK, DL.mMethSK, DL.sCallM, DL.mLendS, DL.gPut, DL.fInTS, DL.mDPopN, DL.e_srcT, DL.e_srcK, DL.mLCount, DL.fSumT, DL.e_lk, D.obj.injEq, List.drop_zero, List.take_zero, List.take_succ_cons, List.take_nil, List.drop_succ_cons, List.drop_nil, D.script.injEq, Int.reduceToNat, exists_eq_right, exists_eq_right', List.append_nil, DL.ex2, DL.ex3, DL.atI_0, DL.atI_1, DL.cut_01, reduceCtorEq, false_and, and_false, exists_false, false_or, or_false, Bool.not_true, Bool.not_false, Bool.false_eq_true, if_true, if_false, ite_true, ite_false, decide_true, decide_false, reduceIte])
abbrev sls : List Str := ["Packing"]
/-- is_integer -/
def b_is_integer : SM :=
  (sRet (mAnd (mIsiT owns "int" (mVar 0)) (mAnd (mVal (mNotT (mTest (mIsiT owns "bool" (mVar 0))))) (mChain fLt fLt (mNeg (mC (.int 100000000000000000000000000000000000000000000000000000000000000000000000000000000000000000000000000000000000000000000000000000000000000000000000000000000000000000000000000000000000000000000000000000000))) (mVar 0) (mC (.int 100000000000000000000000000000000000000000000000000000000000000000000000000000000000000000000000000000000000000000000000000000000000000000000000000000000000000000000000000000000000000000000000000000000))))))
def m_is_integer : FM := mFun 1 1 b_is_integer
def c_is_integer : FM := fun ds Q _ => ∃ d, ds = [d] ∧ okB owns d ∧ Q (.bool (intD d))
theorem c_is_integer_ok : ∀ ds Q E, c_is_integer ds Q E → m_is_integer ds Q E := by
  rintro ds Q E ⟨d, rfl, ht, q⟩
  unfold m_is_integer b_is_integer
  walk_at "dl"
  rw [isx_int ht]
  refine ⟨_, rfl, ?_⟩
  cases d with
  | int i =>
    rw [show (D.int i).isI = true from rfl, if_pos rfl, isx_bool ht]
    refine ⟨_, rfl, ?_⟩
    rw [show (D.int i).isB = false from rfl]
    walk_at "dl"
    rw [lim_lit]
    simp only [intD] at q
    by_cases h1 : -(10 ^ 200) < i
    · rw [decide_eq_true h1, Bool.true_and] at q
      rw [decide_eq_true h1, if_pos rfl]
      exact q
    · rw [decide_eq_false h1, Bool.false_and] at q
      rw [decide_eq_false h1, if_neg (by decide)]
      exact q
  | bool b =>
    rw [show (D.bool b).isI = true from rfl, if_pos rfl, isx_bool ht]
    refine ⟨_, rfl, ?_⟩
    rw [show (D.bool b).isB = true from rfl, if_neg (by decide)]
    exact q
  | _ => exact q
/-- is_size -/
def b_is_size : SM :=
  (sRet (mAnd (mCall c_is_integer (mCons (mVar 0) mNil)) (mCmp fGe (mVar 0) (mC (.int 1)))))
def m_is_size : FM := mFun 1 1 b_is_size
def c_is_size : FM := fun ds Q _ => ∃ d, ds = [d] ∧ okB owns d ∧ Q (.bool (sizD d))
theorem c_is_size_ok : ∀ ds Q E, c_is_size ds Q E → m_is_size ds Q E := by
  rintro ds Q E ⟨d, rfl, ht, q⟩
  unfold m_is_size b_is_size
  walk_at "dl"
  refine ⟨d, rfl, ht, _, rfl, ?_⟩
  cases d with
  | int i =>
    rw [siz_eq] at q
    cases h : intD (.int i) with
    | true =>
      rw [h, Bool.true_and] at q
      rw [if_pos rfl]
      exact q
    | false =>
      rw [h, Bool.false_and] at q
      rw [if_neg (by decide)]
      exact q
  | _ => exact q
theorem isZ {d : D} {Q : D → Prop} {E : Er → Prop} (h : d.tyn.isSome = true) (q : Q (.bool (sizD d))) : c_is_size [d] Q E := ⟨d, rfl, .inl h, q⟩
/-- is_table -/
def b_is_table : SM :=
  (sRet (mAnd (mIsiT owns "dict" (mVar 0)) (mB fAll (mCons (mComp [1, 2] (mItems (mVar 0)) (gT 2 (gsCons (gN 1) (gsCons (gN 2) gsNil))) mYes (mAnd (mCall c_is_size (mCons (mVar 1) mNil)) (mCall c_is_size (mCons (mVar 2) mNil)))) mNil))))
def m_is_table : FM := mFun 1 3 b_is_table
def c_is_table : FM := fun ds Q _ => ∃ L, ds = [.dict (tabD L)] ∧ tabOk L ∧ Q (.bool true)
theorem c_is_table_ok : ∀ ds Q E, c_is_table ds Q E → m_is_table ds Q E := by
  rintro ds Q E ⟨L, rfl, hL, q⟩
  unfold m_is_table b_is_table
  walk_at "dl"
  rw [isx_dict (.inl rfl)]
  refine ⟨_, rfl, ?_⟩
  rw [if_pos (by rfl)]
  rw [tab_items]
  refine compL_map (fun _ => .bool true) (fun d hd R S hR => ?_) ?_
  · obtain ⟨p, hp, rfl⟩ := List.mem_map.mp hd
    have h := hL.2.2 p hp
    refine ⟨_, rfl, rfl, _, _, rfl, _, _, rfl, rfl, ?_⟩
    walk_at "dl"
    refine isZ rfl ⟨_, rfl, ?_⟩
    rw [siz_ok h.1, if_pos rfl]
    refine isZ rfl ?_
    rw [siz_ok h.2]
    exact hR
  · refine ⟨L.map fun _ => true, by rw [List.nil_append, List.map_map, List.map_map] <;> rfl, ?_⟩
    have e : (L.map fun _ => true).all id = true := by
      rw [List.all_map]
      exact List.all_eq_true.mpr fun _ _ => rfl
    rw [e]
    exact q
/-- Lot.__init__ -/
def b_Lot_init : SM :=
  (sIf (mTest (mIsiC owns "Counted" (mVar 1)))
  (sFld 0 "Lot" "own_counts" (mFld "Counted" (mVar 1) "own_counts"))
  (sSeq (sSet 2 (mIf (mCmpT fIs (mVar 1) (mC .none)) (mC (.dict [])) (mVar 1)))
    (sSeq (sIf (mOrT (mNotT (mTest (mCall c_is_table (mCons (mVar 2) mNil)))) (mCmpT fGt (mB fLenY (mCons (mVar 2) mNil)) (mC (.int 12))))
    (sRaise0 "InvalidLot")
    sNext)
    (sFld 0 "Lot" "own_counts" (mCompD [3] (mSeq (mB fSortK (mCons (mVar 2) mNil))) (gN 3) mYes (mVar 3) (mDGet (mVar 2) (mVar 3)))))))
def m_Lot_init : MM := mFunMD 2 4 [.none] b_Lot_init
def c_Lot_init : MM := fun self ds P _ => self = .obj "Lot" [] ∧ (((ds = [] ∧ P (lotD []) .none) ∨ ∃ L, ds = [.dict (tabD L)] ∧ tabOk L ∧ P (lotD (sortT L)) .none) ∨ ∃ L, ds = [countedD L] ∧ P (lotD L) .none)
theorem c_Lot_init_ok : ∀ self ds P E, c_Lot_init self ds P E → m_Lot_init self ds P E := by
  rintro self ds P E ⟨rfl, h⟩
  unfold m_Lot_init b_Lot_init
  rcases h with (⟨rfl, q⟩ | ⟨L, rfl, hL, q⟩) | ⟨L, rfl, q⟩
  · walk_at "dl"
    refine ⟨.inl rfl, _, rfl, ?_⟩
    rw [if_neg (by decide)]
    refine ⟨[], rfl, ⟨List.Pairwise.nil, by decide, fun p hp => by cases hp⟩, _, rfl, ?_⟩
    rw [if_neg (by decide), if_neg (by decide)]
    exact sort_comp (L := []) ⟨List.Pairwise.nil, by decide, fun p hp => by cases hp⟩ ⟨[], by decide, rfl, q⟩ _
  · walk_at "dl"
    refine ⟨.inl rfl, _, rfl, ?_⟩
    rw [if_neg (fun z => by cases z), if_neg (fun z => by cases z)]
    refine ⟨L, rfl, hL, _, rfl, ?_⟩
    rw [if_neg (by decide), if_neg (by rw [tab_len, decide_eq_true_eq]; have := hL.2.1; omega)]
    exact sort_comp hL ⟨[], by decide, rfl, q⟩ _
  · walk_at "dl"
    refine ⟨.inr ⟨_, _, rfl, by decide⟩, _, rfl, ?_⟩
    rw [if_pos (by rfl)]
    exact ⟨_, rfl, _, rfl, [], by decide, rfl, q⟩
/-- is_run_stores -/
def b_is_run_stores : SM :=
  (sRet (mAnd (mIsiT owns "tuple" (mVar 0)) (mAnd (mCmp fEq (mB fLen (mCons (mVar 0) mNil)) (mC (.int 2))) (mAnd (mCall c_is_size (mCons (mBin fIx (mVar 0) (mC (.int 0))) mNil)) (mCall c_is_size (mCons (mBin fIx (mVar 0) (mC (.int 1))) mNil))))))
def m_is_run_stores : FM := mFun 1 1 b_is_run_stores
def c_is_run_stores : FM := fun ds Q _ => ∃ d, ds = [d] ∧ d.tyn.isSome = true ∧ (∀ xs, d = .tup xs → xs.length ≤ 1000 ∧ ∀ x, x ∈ xs → x.tyn.isSome = true) ∧ Q (.bool (runD d))
theorem c_is_run_stores_ok : ∀ ds Q E, c_is_run_stores ds Q E → m_is_run_stores ds Q E := by
  rintro ds Q E ⟨d, rfl, ht, hx, q⟩
  unfold m_is_run_stores b_is_run_stores
  walk_at "dl"
  rw [isx_tup (.inl ht)]
  refine ⟨_, rfl, ?_⟩
  cases d with
  | tup xs =>
    rw [show (D.tup xs).isT = true from rfl, if_pos rfl]
    obtain ⟨hl, hx⟩ := hx xs rfl
    walk_at "dl"
    match xs, hl, hx, q with
    | [], _, _, q => exact q
    | [a], _, _, q => exact q
    | [a, b], _, hx, q =>
      rw [if_pos (by rfl)]
      refine ⟨a, rfl, isZ (hx a (by simp)) ⟨_, rfl, ?_⟩⟩
      cases ha : sizD a with
      | true =>
        rw [if_pos rfl]
        refine ⟨b, rfl, isZ (hx b (by simp)) ?_⟩
        simp only [runD, ha, Bool.true_and] at q
        exact q
      | false =>
        rw [if_neg (by decide)]
        simp only [runD, ha, Bool.false_and] at q
        exact q
    | a :: b :: c :: r, _, _, q =>
      rw [if_neg (by simp; omega)]
      exact q
  | _ => exact q
/-- merged -/
def b_merged : SM :=
  (sSeq (sSetM 1 (mLst mNil))
  (sSeq (sFor (mSeq (mVar 0)) (gT 2 (gsCons (gN 2) (gsCons (gN 3) gsNil)))
  (sIf (mAndT (mCmpT fNe (mMut 1) (mLst mNil)) (mCmpT fEq (mBin fIx (mBin fIx (mMut 1) (mNeg (mC (.int 1)))) (mC (.int 0))) (mVar 2)))
    (sPutL 1 (mNeg (mC (.int 1))) (mTup (mCons (mVar 2) (mCons (mBin fAdd (mBin fIx (mBin fIx (mMut 1) (mNeg (mC (.int 1)))) (mC (.int 1))) (mVar 3)) mNil))))
    (sApp 1 (mTup (mCons (mVar 2) (mCons (mVar 3) mNil))))))
  (sFrz 1 (sRet (mVar 1)))))
def m_merged : FM := mFun 1 4 b_merged
def c_merged : FM := fun ds Q _ => ∃ L : Runs, (ds = [.tup (L.map pairD)] ∨ ds = [.list (L.map pairD)]) ∧ L.length ≤ 1000000 ∧ Q (.list ((mergeT L).map pairD))
theorem c_merged_ok : ∀ ds Q E, c_merged ds Q E → m_merged ds Q E := by
  rintro ds Q E ⟨L, hd, hl, q⟩
  have run : ∀ (z : D), forL (gT 2 (gsCons (gN 2) (gsCons (gN 3) gsNil))) (sIf (mAndT (mCmpT fNe (mMut 1) (mLst mNil)) (mCmpT fEq (mBin fIx (mBin fIx (mMut 1) (mNeg (mC (.int 1)))) (mC (.int 0))) (mVar 2)))
      (sPutL 1 (mNeg (mC (.int 1))) (mTup (mCons (mVar 2) (mCons (mBin fAdd (mBin fIx (mBin fIx (mMut 1) (mNeg (mC (.int 1)))) (mC (.int 1))) (mVar 3)) mNil))))
      (sApp 1 (mTup (mCons (mVar 2) (mCons (mVar 3) mNil))))) (L.map pairD) [.v z, .m (.list []), .u, .u] { endK Q E with nx := fun δ => sFrz 1 (sRet (mVar 1)) δ (endK Q E) } := fun z => by
    refine forL_inv (fun i δ => ∃ x y, δ = [DV.v z, .m (.list ((mergeT (L.take i)).map pairD)), x, y]) (fun i d δ N hd ⟨x, y, hδ⟩ hN => ?_) ⟨.u, .u, rfl⟩ fun δ ⟨x, y, hδ⟩ => ?_
    · subst hδ
      rw [List.getElem?_map, Option.map_eq_some_iff] at hd
      obtain ⟨p, hp, rfl⟩ := hd
      have hi := (List.getElem?_eq_some_iff.mp hp).1
      have ht : L.take (i + 1) = L.take i ++ [p] := by rw [List.take_succ_eq_append_getElem hi, (List.getElem?_eq_some_iff.mp hp).2]
      have hm := mergeT_len (L.take i)
      rw [List.length_take] at hm
      have ep : ∀ p : Int × Int, pairD p = .tup [.int p.1, .int p.2] := fun _ => rfl
      rw [ep p]
      walk_at "dl"
      refine ⟨(fineR _).fine (by decide), (fineN_list (n := 0) (ds := []) fun d hd => by cases hd).fine (by decide), ?_⟩
      rw [eqD_list]
      have hN' := hN
      rw [ht, mergeT_snoc] at hN'
      rcases List.eq_nil_or_concat (mergeT (L.take i)) with e | ⟨l, q0, e⟩
      · rw [e] at hN' ⊢
        simp only [List.map_nil, eqAll, Bool.not_true, Bool.false_eq_true, if_false]
        exact ⟨by simp, hN' _ ⟨_, _, rfl⟩⟩
      · rw [List.concat_eq_append] at e
        rw [e, mstep_end] at hN'
        rw [e] at hm ⊢
        rw [List.map_append, List.map_cons, List.map_nil]
        rw [show eqAll (l.map pairD ++ [pairD q0]) [] = false by cases l <;> rfl]
        simp only [Bool.not_false, if_true]
        refine ⟨_, atI_end, ?_⟩
        rw [ep q0]
        walk_at "dl"
        by_cases h : q0.1 = p.1
        · rw [if_pos h] at hN'
          rw [if_pos (by rw [decide_eq_true h])]
          refine ⟨_, atI_end, ?_⟩
          walk_at "dl"
          refine ⟨_, _, rfl, ix_last _ _, hN' _ ⟨.v (.int p.1), .v (.int p.2), ?_⟩⟩
          rw [List.map_append, List.set_append_right _ _ (Nat.le_refl _), Nat.sub_self] <;> rfl
        · rw [if_neg h] at hN'
          rw [if_neg (by rw [decide_eq_true_eq]; exact h)]
          refine ⟨?_, hN' _ ⟨.v (.int p.1), .v (.int p.2), by rw [List.map_append, List.map_append] <;> rfl⟩⟩
          rw [List.length_append, List.length_singleton] at hm
          rw [List.length_append, List.length_map, List.length_singleton]
          omega
    · subst hδ
      rw [List.length_map, List.take_length]
      walk_at "dl"
      exact q
  rcases hd with rfl | rfl
  · unfold m_merged b_merged
    have := run (.tup (L.map pairD))
    walk_at "dl"
    exact this
  · unfold m_merged b_merged
    have := run (.list (L.map pairD))
    walk_at "dl"
    exact this
/-- Store.__init__ -/
def b_Store_init : SM :=
  (sIf (mAndT (mCmpT fEq (mB fLen (mCons (mVar 1) mNil)) (mC (.int 1))) (mTest (mIsiC owns "Row" (mBin fIx (mVar 1) (mC (.int 0))))))
  (sFld 0 "Store" "own_runs" (mFld "Row" (mBin fIx (mVar 1) (mC (.int 0))) "own_runs"))
  (sSeq (sIf (mNotT (mTest (mB fAll (mCons (mComp [2] (mSeq (mVar 1)) (gN 2) mYes (mCall c_is_run_stores (mCons (mVar 2) mNil))) mNil))))
    (sRaise0 "InvalidStore")
    sNext)
    (sSeq (sSet 3 (mCall c_merged (mCons (mVar 1) mNil)))
    (sSeq (sIf (mCmpT fGt (mB fLen (mCons (mVar 3) mNil)) (mC (.int 40)))
    (sRaise0 "InvalidStore")
    sNext)
    (sFld 0 "Store" "own_runs" (mB fTuple (mCons (mVar 3) mNil)))))))
def m_Store_init : MM := mFunMS 4 b_Store_init
/-- stores of runs, of a row that is made already -/
def c_Store_init : MM := fun self ds P E => self = .obj "Store" [] ∧ ((∃ L : Runs, ds = [rowD L] ∧ P (storeD L) .none) ∨ (ds.length ≤ 100 ∧ (∀ d, d ∈ ds → runArg d) ∧ (ds.all runD = false → ∀ z, E z (noE' "InvalidStore")) ∧ ∀ L : Runs, ds = L.map pairD → ds.all runD = true → if (mergeT L).length ≤ 40 then P (storeD (mergeT L)) .none else ∀ z, E z (noE' "InvalidStore")))
theorem c_Store_init_ok : ∀ self ds P E, c_Store_init self ds P E → m_Store_init self ds P E := by
  rintro self ds P E ⟨rfl, h⟩
  unfold m_Store_init b_Store_init
  rcases h with ⟨L, rfl, q⟩ | ⟨hl, ha, he, q⟩
  · walk_at "dl"
    rw [if_pos (by rfl)]
    refine ⟨.inr ⟨_, _, rfl, by decide⟩, _, rfl, ?_⟩
    rw [if_pos (by rfl)]
    exact ⟨_, rfl, _, rfl, [], by decide, rfl, q⟩
  · walk_at "dl"
    refine ⟨by omega, ?_⟩
    have tail : compL (gN 2) mYes (mCall c_is_run_stores (mCons (mVar 2) mNil)) [DV.s (.obj "Store" []), .v (.tup ds), .u, .u] ds [] fun d => fAll [d] fun d => ∃ c, d = .bool c ∧ if (!c) = true then E (.obj "Store" []) { cls := "InvalidStore", arg := none } else
        c_merged [.tup ds] (fun d => fLen [d] fun x => fCmp (fun i j => decide (j < i)) (fun i j => decide (j < i)) x (.int 40) fun c => if c = true then E (.obj "Store" []) { cls := "InvalidStore", arg := none } else fTuple [d] fun v => ∃ ds, ds.length < 900 ∧ [] = ds ∧ P (.obj "Store" (putFD "own_runs" v ds)) .none) fun er => E (.obj "Store" []) er := by
      refine compL_map (fun d => .bool (runD d)) (fun d hd R S hR => ?_) ?_
      · walk_at "dl"
        exact ⟨d, rfl, (ha d hd).1, (ha d hd).2, hR⟩
      · refine ⟨ds.map runD, by rw [List.nil_append, List.map_map] <;> rfl, _, rfl, ?_⟩
        cases hall : ds.all runD with
        | false =>
          rw [if_pos (by rw [List.all_map]; show (!ds.all runD) = true; rw [hall]; rfl)]
          exact he hall _
        | true =>
          rw [if_neg (by rw [List.all_map]; show ¬ (!ds.all runD) = true; rw [hall]; decide)]
          obtain ⟨L, rfl, hL⟩ := runs_of hall
          have q' := q L rfl hall
          rw [List.length_map] at hl
          refine ⟨L, .inl rfl, by omega, ?_⟩
          walk_at "dl"
          rw [List.length_map]
          by_cases h40 : (mergeT L).length ≤ 40
          · rw [if_pos h40] at q'
            rw [if_neg (by rw [decide_eq_true_eq]; omega)]
            exact ⟨[], by decide, rfl, q'⟩
          · rw [if_neg h40] at q'
            rw [if_pos (by rw [decide_eq_true_eq]; omega)]
            exact q' _
    split
    · rename_i h
      match ds, h, tail with
      | [d], _, tail =>
        refine ⟨d, rfl, .inl (ha d (by simp)).1, _, rfl, ?_⟩
        rw [isCls_row (ha d (by simp)).1, if_neg (by decide)]
        exact tail
    · exact tail
theorem init_ok {M : Runs} {P : D → D → Prop} {E : D → Er → Prop} (hl : M.length ≤ 100) (hM : ∀ p, p ∈ M → (1 ≤ p.1 ∧ p.1 < 10 ^ 200) ∧ 1 ≤ p.2 ∧ p.2 < 10 ^ 200) (h40 : (mergeT M).length ≤ 40) (q : P (storeD (mergeT M)) .none) : c_Store_init (.obj "Store" []) (M.map pairD) P E := by
  have all : (M.map pairD).all runD = true := by
    rw [List.all_map]
    exact List.all_eq_true.mpr fun p hp => run_yes (hM p hp)
  refine ⟨rfl, .inr ⟨by rw [List.length_map]; exact hl, fun d hd => ?_, fun h => ?_, fun L hL _ => ?_⟩⟩
  · obtain ⟨p, hp, rfl⟩ := List.mem_map.mp hd
    exact run_arg p
  · rw [all] at h; cases h
  · rw [← runs_inj hL, if_pos h40]
    exact q
/-- _law_dice -/
def b_law_dice : SM :=
  (sSeq (sSet 2 (mIf (mCmpT fLt (mVar 1) (mB fLen (mCons (mVar 0) mNil))) (mB fInt (mCons (mBin fIx (mVar 0) (mVar 1)) mNil)) (mBin fAdd (mBin fMul (mC (.int 71)) (mVar 1)) (mC (.int 29)))))
  (sSeq (sSet 3 (mBin fMod (mB fMax2 (mCons (mC (.int 0)) (mCons (mBin fSub (mB fAbs (mCons (mVar 2) mNil)) (mBin fPow (mC (.int 10)) (mC (.int 15)))) mNil))) (mBin fMul (mBin fPow (mC (.int 10)) (mC (.int 60))) (mBin fPow (mC (.int 10)) (mC (.int 60))))))
  (sRet (mDice (mLst (mCons (mVar 3) (mCons (mBin fAdd (mBin fAdd (mBin fAdd (mBin fMul (mBin fMod (mB fAbs (mCons (mVar 2) mNil)) (mC (.int 1152921504606846877))) (mC (.int 43))) (mBin fMul (mC (.int 1009)) (mVar 1))) (mBin fMul (mC (.int 31)) (mB fInt (mCons (mCmp fLt (mVar 2) (mC (.int 0))) mNil)))) (mC (.int 11))) (mCons (mC (.int 0)) mNil))))))))
def m_law_dice : FM := mFun 2 4 b_law_dice
def c_law_dice : FM := fun ds Q _ => ∃ (ns : List Int) (n : Nat), ds = [.script ns, .int n] ∧ Q .dice
theorem c_law_dice_ok : ∀ ds Q E, c_law_dice ds Q E → m_law_dice ds Q E := by
  rintro ds Q E ⟨ns, n, rfl, q⟩
  unfold m_law_dice b_law_dice
  walk_at "dl"
  split
  · rename_i h
    obtain ⟨x, ex, _⟩ := atI_of (xs := ns) (i := (n : Int)) (by omega) (by simpa using h)
    exact ⟨x, ex, pow_ok1, pow_ok2, pow_ok2, mul_big, by decide, mul_r (by decide) (by decide), mul_l (by decide) (by decide), mul_l (by decide) (by decide), ⟨_, _, _, rfl, rfl, rfl⟩, q⟩
  · exact ⟨mul_l (by decide) (by decide), pow_ok1, pow_ok2, pow_ok2, mul_big, by decide, mul_r (by decide) (by decide), mul_l (by decide) (by decide), mul_l (by decide) (by decide), ⟨_, _, _, rfl, rfl, rfl⟩, q⟩
/-- require_lot -/
def b_require_lot : SM :=
  (sIf (mNotT (mTest (mIsiX owns sls "Lot" (mVar 0))))
  (sRaise0 "InvalidLot")
  sNext)
def m_require_lot : FM := mFun 1 1 b_require_lot
def c_require_lot : FM := fun ds Q E => ∃ d, ds = [d] ∧ okX owns sls d ∧ if isCX "Lot" d = true then Q .none else E (noE "InvalidLot")
theorem c_require_lot_ok : ∀ ds Q E, c_require_lot ds Q E → m_require_lot ds Q E := by
  rintro ds Q E ⟨d, rfl, h, q⟩
  unfold m_require_lot b_require_lot
  walk_at "dl"
  refine ⟨h, _, rfl, ?_⟩
  cases hi : isCX "Lot" d with
  | true => rw [hi] at q; exact q
  | false => rw [hi] at q; exact q
/-- require_store -/
def b_require_store : SM :=
  (sIf (mNotT (mTest (mIsiX owns sls "Store" (mVar 0))))
  (sRaise0 "InvalidStore")
  sNext)
def m_require_store : FM := mFun 1 1 b_require_store
def c_require_store : FM := fun ds Q E => ∃ d, ds = [d] ∧ okX owns sls d ∧ if isCX "Store" d = true then Q .none else E (noE "InvalidStore")
theorem c_require_store_ok : ∀ ds Q E, c_require_store ds Q E → m_require_store ds Q E := by
  rintro ds Q E ⟨d, rfl, h, q⟩
  unfold m_require_store b_require_store
  walk_at "dl"
  refine ⟨h, _, rfl, ?_⟩
  cases hi : isCX "Store" d with
  | true => rw [hi] at q; exact q
  | false => rw [hi] at q; exact q
/-- is_greedy -/
def b_is_greedy : SM :=
  (sSeq (sExpr (mCall c_require_lot (mCons (mVar 0) mNil)))
  (sSeq (sExpr (mCall c_require_store (mCons (mVar 1) mNil)))
  (sSeq (sIf (mOrT (mNotT (mTest (mIsiT owns "tuple" (mVar 2)))) (mCmpT fNe (mB fLen (mCons (mVar 2) mNil)) (mC (.int 2))))
  (sRet (mC (.bool false)))
  sNext)
  sFalse)))
def m_is_greedy : FM := mFun 3 11 b_is_greedy
def c_is_greedy : FM := fun ds Q E => ∃ a b, ds = [a, b, .none] ∧ okX owns sls a ∧ ((isCX "Lot" a = false ∧ E (noE "InvalidLot")) ∨ (isCX "Lot" a = true ∧ okX owns sls b ∧ isCX "Store" b = false ∧ E (noE "InvalidStore")))
theorem c_is_greedy_ok : ∀ ds Q E, c_is_greedy ds Q E → m_is_greedy ds Q E := by
  rintro ds Q E ⟨a, b, rfl, ha, ⟨h, q⟩ | ⟨h, hb, h2, q⟩⟩
  · unfold m_is_greedy b_is_greedy
    walk_at "dl"
    refine ⟨a, rfl, ha, ?_⟩
    rw [h, if_neg (by decide)]
    exact q
  · unfold m_is_greedy b_is_greedy
    walk_at "dl"
    refine ⟨a, rfl, ha, ?_⟩
    rw [h, if_pos rfl]
    refine ⟨b, rfl, hb, ?_⟩
    rw [h2, if_neg (by decide)]
    exact q
/-- Store.runs -/
def b_Store_runs : SM :=
  (sRet (mFld "Store" (mVar 0) "own_runs"))
def m_Store_runs : FM := mFun 1 1 b_Store_runs
def c_Store_runs : FM := fun ds Q _ => ∃ L : Runs, ds = [storeD L] ∧ Q (.tup (L.map pairD))
theorem c_Store_runs_ok : ∀ ds Q E, c_Store_runs ds Q E → m_Store_runs ds Q E := by
  rintro ds Q E ⟨L, rfl, q⟩
  unfold m_Store_runs b_Store_runs
  walk_at "dl"
  exact ⟨_, rfl, _, rfl, q⟩
/-- Filler.__init__ -/
def b_Filler_init : SM :=
  (sFld 0 "Filler" "own_runs" (mComp [2, 3] (mSeq (mProp "Store" c_Store_runs (mVar 1))) (gT 2 (gsCons (gN 2) (gsCons (gN 3) gsNil))) mYes (mTup (mCons (mVar 2) (mCons (mVar 3) (mCons (mTup mNil) mNil))))))
def m_Filler_init : MM := mFunM 2 4 b_Filler_init
def fillerD (R : List PRun) : D := .obj "Filler" [("own_runs", .list (R.map prD))]
def emptyR (L : Runs) : List PRun := L.map fun p => (p.1, p.2, [])
def c_Filler_init : MM := fun self ds P _ => self = .obj "Filler" [] ∧ ∃ L : Runs, ds = [storeD L] ∧ P (fillerD (emptyR L)) .none
theorem c_Filler_init_ok : ∀ self ds P E, c_Filler_init self ds P E → m_Filler_init self ds P E := by
  rintro self ds P E ⟨rfl, L, rfl, q⟩
  unfold m_Filler_init b_Filler_init
  walk_at "dl"
  refine ⟨_, rfl, L, rfl, .inr ⟨_, rfl, ?_⟩⟩
  refine compL_map (fun d => match d with | .tup [a, b] => .tup [a, b, .tup []] | d => d) (fun d hd R S hR => ?_) ?_
  · obtain ⟨p, hp, rfl⟩ := List.mem_map.mp hd
    unfold pairD at hR ⊢
    walk_at "dl"
    exact hR
  · rw [List.nil_append, List.map_map]
    refine ⟨[], by decide, rfl, ?_⟩
    have e : L.map ((fun d => match d with | D.tup [a, b] => D.tup [a, b, .tup []] | d => d) ∘ pairD) = (emptyR L).map prD := by
      unfold emptyR
      rw [List.map_map]
      rfl
    rw [e]
    exact q
/-- is_filling -/
def b_is_filling : SM :=
  (sSeq (sIf (mOrT (mNotT (mTest (mIsiT owns "tuple" (mVar 0)))) (mCmpT fGt (mB fLen (mCons (mVar 0) mNil)) (mC (.int 12))))
  (sRet (mC (.bool false)))
  sNext)
  (sSeq (sFor (mSeq (mVar 0)) (gN 1)
  (sIf (mOrT (mNotT (mTest (mIsiT owns "tuple" (mVar 1)))) (mOrT (mCmpT fNe (mB fLen (mCons (mVar 1) mNil)) (mC (.int 2))) (mOrT (mNotT (mTest (mCall c_is_size (mCons (mBin fIx (mVar 1) (mC (.int 0))) mNil)))) (mNotT (mTest (mCall c_is_size (mCons (mBin fIx (mVar 1) (mC (.int 1))) mNil)))))))
    (sRet (mC (.bool false)))
    sNext))
  (sRet (mB fAll (mCons (mComp [2, 3] (mZip (mCons (mVar 0) (mCons (mSlice (mVar 0) (mPart (mC (.int 1))) mNoPart) mNil))) (gT 2 (gsCons (gN 2) (gsCons (gN 3) gsNil))) mYes (mCmp fLt (mBin fIx (mVar 2) (mC (.int 0))) (mBin fIx (mVar 3) (mC (.int 0))))) mNil)))))
def m_is_filling : FM := mFun 1 4 b_is_filling
def okF (d : D) : Prop := okB owns d ∧ ∀ xs, d = .tup xs → ∀ x, x ∈ xs → okB owns x ∧ ∀ ys, x = .tup ys → ∀ y, y ∈ ys → y.tyn.isSome = true
def c_is_filling : FM := fun ds Q _ => (∃ f : Tab, ds = [fillD f] ∧ fillOk f ∧ Q (.bool true)) ∨ ∃ d, ds = [d] ∧ okF d ∧ Q (.bool (fillB d))
theorem c_is_filling_ok : ∀ ds Q E, c_is_filling ds Q E → m_is_filling ds Q E := by
  rintro ds Q E (⟨f, rfl, ⟨hl, hb, ha⟩, q⟩ | ⟨d, rfl, hd, q⟩)
  rotate_left
  · by_cases hT : ∃ xs, d = .tup xs
    rotate_left
    · have e1 : d.isT = false := by
        cases d <;> first | rfl | exact absurd ⟨_, rfl⟩ hT
      have e2 : fillB d = false := by
        cases d <;> first | rfl | exact absurd ⟨_, rfl⟩ hT
      rw [e2] at q
      unfold m_is_filling b_is_filling
      walk_at "dl"
      rw [isx_tup hd.1]
      refine ⟨_, rfl, ?_⟩
      rw [e1, if_pos (by decide)]
      exact q
    · obtain ⟨xs, rfl⟩ := hT
      have ho := hd.2 xs rfl
      unfold m_is_filling b_is_filling
      walk_at "dl"
      rw [isx_tup hd.1]
      refine ⟨_, rfl, ?_⟩
      rw [show (D.tup xs).isT = true from rfl, if_neg (by decide)]
      by_cases hl : xs.length ≤ 12
      rotate_left
      · rw [if_pos (by rw [decide_eq_true_eq]; omega)]
        have e2 : fillB (.tup xs) = false := by
          show (decide (xs.length ≤ 12) && _ && _) = false
          rw [decide_eq_false hl]; rfl
        rw [e2] at q
        exact q
      rw [if_neg (by rw [decide_eq_true_eq]; omega)]
      have e0 : fillB (.tup xs) = (xs.all partB && ascL (xs.map fstI)) := by
        show (decide (xs.length ≤ 12) && xs.all partB && _) = _
        rw [decide_eq_true hl, Bool.true_and]
      rw [e0] at q
      have bad : xs.all partB = false → Q (.bool false) := fun h => by
        rw [h, Bool.false_and] at q
        exact q
      refine forL_ind (fun ds δ => ∃ x : DV, xs.all partB = ds.all partB ∧ (∀ p, p ∈ ds → p ∈ xs) ∧ δ = [.v (.tup xs), x, .u, .u]) (fun δ ⟨x, e, hm, hδ⟩ => ?_) (fun d ds δ N ⟨x, e, hm, hδ⟩ hN => ?_) ⟨.u, rfl, fun _ h => h, rfl⟩
      · subst hδ
        have e : xs.all partB = true := e
        rw [e, Bool.true_and] at q
        obtain ⟨f, rfl, hb⟩ := part_tab e
        walk_at "dl"
        rw [cut_tail, nb_keys]
        refine compL_map (fun d => match d with | .tup [.tup [.int x, _], .tup [.int y, _]] => .bool (decide (x < y)) | _ => .none) (fun d hd R S hR => ?_) ?_
        · obtain ⟨p, hp, rfl⟩ := List.mem_map.mp hd
          refine ⟨_, rfl, rfl, _, _, rfl, _, _, rfl, rfl, ?_⟩
          unfold pairD at hR ⊢
          walk_at "dl"
          exact hR
        · refine ⟨(nbP f).map fun p => decide (p.1.1 < p.2.1), ?_, ?_⟩
          · rw [List.nil_append, List.map_map, List.map_map] <;> rfl
          · rw [List.all_map]
            have eb : (nbP f).all (id ∘ fun p => decide (p.1.1 < p.2.1)) = ascL (keysT f) := nb_asc f
            rw [eb]
            have eb2 : (f.map pairD).map fstI = keysT f := by
              unfold keysT
              rw [List.map_map]
              rfl
            rw [eb2] at q
            exact q
      · subst hδ
        have hmd := hm d List.mem_cons_self
        have od := ho d hmd
        have bad2 : partB d = false → Q (.bool false) := fun h => bad (by rw [e, List.all_cons, h]; rfl)
        by_cases hT : ∃ ys, d = .tup ys
        rotate_left
        · have e1 : d.isT = false := by
            cases d <;> first | rfl | exact absurd ⟨_, rfl⟩ hT
          have e2 : partB d = false := by
            cases d <;> first | rfl | exact absurd ⟨_, rfl⟩ hT
          walk_at "dl"
          rw [isx_tup od.1]
          refine ⟨_, rfl, ?_⟩
          rw [e1, if_pos (by decide)]
          exact bad2 e2
        · obtain ⟨ys, rfl⟩ := hT
          have oy := od.2 ys rfl
          walk_at "dl"
          rw [isx_tup od.1]
          refine ⟨_, rfl, ?_⟩
          rw [show (D.tup ys).isT = true from rfl, if_neg (by decide)]
          by_cases h2 : ys.length = 2
          rotate_left
          · rw [if_pos (by rw [decide_eq_false (by omega)]; rfl)]
            refine bad2 ?_
            match ys, h2 with
            | [], _ => rfl
            | [_], _ => rfl
            | [_, _], h => exact absurd rfl h
            | _ :: _ :: _ :: _, _ => rfl
          rw [if_neg (by rw [decide_eq_true (by omega)]; decide)]
          match ys, h2, oy with
          | [a, b], _, oy =>
            have e2 : partB (.tup [a, b]) = (sizD a && sizD b) := rfl
            walk_at "dl"
            refine isZ (oy a (by simp)) ⟨_, rfl, ?_⟩
            by_cases ha : sizD a = true
            rotate_left
            · rw [Bool.not_eq_true] at ha
              rw [ha, if_pos (by decide)]
              exact bad2 (by rw [e2, ha]; rfl)
            rw [ha, if_neg (by decide)]
            refine isZ (oy b (by simp)) ⟨_, rfl, ?_⟩
            by_cases hb : sizD b = true
            rotate_left
            · rw [Bool.not_eq_true] at hb
              rw [hb, if_pos (by decide)]
              exact bad2 (by rw [e2, hb, Bool.and_false])
            rw [hb, if_neg (by decide)]
            exact hN _ ⟨_, by rw [e, List.all_cons, e2, ha, hb]; rfl, fun p hp => hm p (List.mem_cons_of_mem _ hp), rfl⟩
  unfold m_is_filling b_is_filling fillD
  walk_at "dl"
  rw [isx_tup (.inl rfl)]
  refine ⟨_, rfl, ?_⟩
  rw [show (D.tup (f.map pairD)).isT = true from rfl, if_neg (by decide)]
  rw [List.length_map, if_neg (by rw [decide_eq_true_eq]; omega)]
  refine forL_ind (fun ds δ => ∃ (l : Tab) (x : DV), ds = l.map pairD ∧ (∀ p, p ∈ l → p ∈ f) ∧ δ = [.v (.tup (f.map pairD)), x, .u, .u]) (fun δ ⟨l, x, e, hm, hδ⟩ => ?_) (fun d ds δ N ⟨l, x, e, hm, hδ⟩ hN => ?_) ⟨f, .u, rfl, fun _ h => h, rfl⟩
  · subst hδ
    walk_at "dl"
    rw [cut_tail, nb_keys]
    refine compL_map (fun d => match d with | .tup [.tup [.int x, _], .tup [.int y, _]] => .bool (decide (x < y)) | _ => .none) (fun d hd R S hR => ?_) ?_
    · obtain ⟨p, hp, rfl⟩ := List.mem_map.mp hd
      refine ⟨_, rfl, rfl, _, _, rfl, _, _, rfl, rfl, ?_⟩
      unfold pairD at hR ⊢
      walk_at "dl"
      exact hR
    · refine ⟨(nbP f).map fun p => decide (p.1.1 < p.2.1), ?_, ?_⟩
      · rw [List.nil_append, List.map_map, List.map_map] <;> rfl
      · rw [List.all_map]
        have eb : (nbP f).all (id ∘ fun p => decide (p.1.1 < p.2.1)) = ascL (keysT f) := nb_asc f
        rw [eb, ha]
        exact q
  · subst hδ
    cases l with
    | nil => cases e
    | cons p r =>
      rw [List.map_cons, List.cons.injEq] at e
      obtain ⟨rfl, rfl⟩ := e
      have hp := hb p (hm p List.mem_cons_self)
      unfold pairD
      walk_at "dl"
      rw [isx_tup (.inl rfl)]
      refine ⟨_, rfl, ?_⟩
      rw [show (D.tup [.int p.1, .int p.2]).isT = true from rfl, if_neg (by decide), if_neg (by decide)]
      refine isZ rfl ⟨_, rfl, ?_⟩
      rw [siz_ok hp.1, if_neg (by decide)]
      refine isZ rfl ⟨_, rfl, ?_⟩
      rw [siz_ok hp.2, if_neg (by decide)]
      exact hN _ ⟨r, _, rfl, fun z hz => hm z (List.mem_cons_of_mem _ hz), rfl⟩
/-- load_in -/
def b_load_in : SM :=
  (sRet (mB fSum (mCons (mComp [1, 2] (mSeq (mVar 0)) (gT 2 (gsCons (gN 1) (gsCons (gN 2) gsNil))) mYes (mBin fMul (mVar 1) (mVar 2))) mNil)))
def m_load_in : FM := mFun 1 3 b_load_in
def c_load_in : FM := fun ds Q _ => ∃ f : Tab, ds = [fillD f] ∧ fillOk f ∧ Q (.int (loadT f))
theorem c_load_in_ok : ∀ ds Q E, c_load_in ds Q E → m_load_in ds Q E := by
  rintro ds Q E ⟨f, rfl, hf, q⟩
  unfold m_load_in b_load_in fillD
  walk_at "dl"
  refine compL_map (fun d => match d with | .tup [.int x, .int y] => .int (x * y) | _ => .none) (fun d hd R S hR => ?_) ?_
  · obtain ⟨p, hp, rfl⟩ := List.mem_map.mp hd
    refine ⟨_, rfl, rfl, _, _, rfl, _, _, rfl, rfl, ?_⟩
    walk_at "dl"
    have hp := hf.2.1 p hp
    exact ⟨lim200 (by omega) hp.1.2 (by omega) hp.2.2, hR⟩
  · rw [List.nil_append, List.map_map]
    refine ⟨f.map fun p : Int × Int => p.1 * p.2, ?_, q⟩
    rw [List.map_map] <;> rfl
/-- is_run -/
def b_is_run : SM :=
  (sSeq (sIf (mOrT (mNotT (mTest (mIsiT owns "tuple" (mVar 0)))) (mOrT (mCmpT fNe (mB fLen (mCons (mVar 0) mNil)) (mC (.int 3))) (mOrT (mNotT (mTest (mCall c_is_size (mCons (mBin fIx (mVar 0) (mC (.int 0))) mNil)))) (mNotT (mTest (mCall c_is_size (mCons (mBin fIx (mVar 0) (mC (.int 1))) mNil)))))))
  (sRet (mC (.bool false)))
  sNext)
  (sRet (mAnd (mCall c_is_filling (mCons (mBin fIx (mVar 0) (mC (.int 2))) mNil)) (mCmp fLe (mCall c_load_in (mCons (mBin fIx (mVar 0) (mC (.int 2))) mNil)) (mBin fIx (mVar 0) (mC (.int 0)))))))
def m_is_run : FM := mFun 1 1 b_is_run
def c_is_run : FM := fun ds Q _ => ∃ x : PRun, ds = [prD x] ∧ prOk x ∧ Q (.bool true)
theorem c_is_run_ok : ∀ ds Q E, c_is_run ds Q E → m_is_run ds Q E := by
  rintro ds Q E ⟨⟨r, n, f⟩, rfl, ⟨hr, hf, hl⟩, q⟩
  unfold m_is_run b_is_run prD
  walk_at "dl"
  rw [isx_tup (.inl rfl)]
  refine ⟨_, rfl, ?_⟩
  rw [show ∀ xs, (D.tup xs).isT = true from fun _ => rfl, if_neg (by decide), if_neg (by decide)]
  refine isZ rfl ⟨_, rfl, ?_⟩
  rw [siz_ok hr.1, if_neg (by decide)]
  refine isZ rfl ⟨_, rfl, ?_⟩
  rw [siz_ok hr.2, if_neg (by decide)]
  refine ⟨_, rfl, .inl ⟨f, rfl, hf, ?_⟩⟩
  walk_at "dl"
  refine ⟨_, rfl, f, rfl, hf, ?_⟩
  walk_at "dl"
  rw [decide_eq_true hl]
  exact q
/-- joined_runs -/
def b_joined_runs : SM :=
  (sSeq (sSetM 1 (mLst mNil))
  (sSeq (sFor (mSeq (mVar 0)) (gT 3 (gsCons (gN 2) (gsCons (gN 3) (gsCons (gN 4) gsNil))))
  (sIf (mAndT (mCmpT fNe (mMut 1) (mLst mNil)) (mAndT (mCmpT fEq (mBin fIx (mBin fIx (mMut 1) (mNeg (mC (.int 1)))) (mC (.int 0))) (mVar 2)) (mCmpT fEq (mBin fIx (mBin fIx (mMut 1) (mNeg (mC (.int 1)))) (mC (.int 2))) (mVar 4))))
    (sPutL 1 (mNeg (mC (.int 1))) (mTup (mCons (mVar 2) (mCons (mBin fAdd (mBin fIx (mBin fIx (mMut 1) (mNeg (mC (.int 1)))) (mC (.int 1))) (mVar 3)) (mCons (mVar 4) mNil)))))
    (sApp 1 (mTup (mCons (mVar 2) (mCons (mVar 3) (mCons (mVar 4) mNil)))))))
  (sFrz 1 (sRet (mVar 1)))))
def m_joined_runs : FM := mFun 1 5 b_joined_runs
def c_joined_runs : FM := fun ds Q _ => ∃ L : List PRun, ds = [.tup (L.map prD)] ∧ L.length ≤ 2000 ∧ Q (.list ((joinR L).map prD))
theorem c_joined_runs_ok : ∀ ds Q E, c_joined_runs ds Q E → m_joined_runs ds Q E := by
  rintro ds Q E ⟨L, rfl, hl, q⟩
  unfold m_joined_runs b_joined_runs
  walk_at "dl"
  refine forL_inv (fun i δ => ∃ x y z, δ = [DV.v (.tup (L.map prD)), .m (.list ((joinR (L.take i)).map prD)), x, y, z]) (fun i d δ N hd ⟨x, y, z, hδ⟩ hN => ?_) ⟨.u, .u, .u, rfl⟩ fun δ ⟨x, y, z, hδ⟩ => ?_
  · subst hδ
    rw [List.getElem?_map, Option.map_eq_some_iff] at hd
    obtain ⟨⟨r, n, f⟩, hp, rfl⟩ := hd
    have hi := (List.getElem?_eq_some_iff.mp hp).1
    have ht : L.take (i + 1) = L.take i ++ [(r, n, f)] := by rw [List.take_succ_eq_append_getElem hi, (List.getElem?_eq_some_iff.mp hp).2]
    have hm := joinR_len (L.take i)
    rw [List.length_take] at hm
    have ep : ∀ (r n : Int) (f : Tab), prD (r, n, f) = .tup [.int r, .int n, fillD f] := fun _ _ _ => rfl
    rw [ep]
    walk_at "dl"
    refine ⟨(finePR _).fine (by decide), (fineN_list (n := 0) (ds := []) fun d hd => by cases hd).fine (by decide), ?_⟩
    rw [eqD_list]
    have hN' := hN
    rw [ht, join_snoc] at hN'
    rcases end_or (joinR (L.take i)) with e | ⟨l, ⟨r0, n0, f0⟩, e⟩
    · rw [e] at hN' ⊢
      simp only [List.map_nil, eqAll, Bool.not_true, Bool.false_eq_true, if_false]
      exact ⟨by simp, hN' _ ⟨_, _, _, rfl⟩⟩
    · rw [e, jstep_end] at hN'
      rw [e] at hm ⊢
      rw [List.map_append, List.map_cons, List.map_nil]
      rw [show eqAll (l.map prD ++ [prD (r0, n0, f0)]) [] = false by cases l <;> rfl]
      simp only [Bool.not_false, if_true]
      rw [List.length_append, List.length_singleton] at hm
      refine ⟨_, atI_end, ?_⟩
      rw [ep r0]
      walk_at "dl"
      have long : (l.map prD ++ [D.tup [.int r0, .int n0, fillD f0]]).length < 16777216 := by
        rw [List.length_append, List.length_map, List.length_singleton]
        omega
      by_cases h : r0 = r
      · rw [if_pos (by rw [decide_eq_true h])]
        refine ⟨_, atI_end, ?_⟩
        walk_at "dl"
        refine ⟨_, rfl, fEq_fill ?_⟩
        by_cases h2 : f0 = f
        · rw [if_pos ⟨h, h2⟩] at hN'
          rw [if_pos (by rw [decide_eq_true h2])]
          refine ⟨_, atI_end, ?_⟩
          walk_at "dl"
          refine ⟨_, _, rfl, ix_last _ _, hN' _ ⟨.v (.int r), .v (.int n), .v (fillD f), ?_⟩⟩
          rw [List.map_append, List.set_append_right _ _ (Nat.le_refl _), Nat.sub_self] <;> rfl
        · rw [if_neg (fun z => h2 z.2)] at hN'
          rw [if_neg (by rw [decide_eq_true_eq]; exact h2)]
          exact ⟨long, hN' _ ⟨.v (.int r), .v (.int n), .v (fillD f), by rw [List.map_append, List.map_append] <;> rfl⟩⟩
      · rw [if_neg (fun z => h z.1)] at hN'
        rw [if_neg (by rw [decide_eq_true_eq]; exact h)]
        exact ⟨long, hN' _ ⟨.v (.int r), .v (.int n), .v (fillD f), by rw [List.map_append, List.map_append] <;> rfl⟩⟩
  · subst hδ
    rw [List.length_map, List.take_length]
    walk_at "dl"
    exact q
/-- rooms_in -/
def b_rooms_in : SM :=
  (sSeq (sSetM 1 (mLst mNil))
  (sSeq (sFor (mSeq (mVar 0)) (gT 3 (gsCons (gN 2) (gsCons (gN 3) (gsCons (gN 4) gsNil))))
  (sIf (mAndT (mCmpT fNe (mMut 1) (mLst mNil)) (mCmpT fEq (mBin fIx (mBin fIx (mMut 1) (mNeg (mC (.int 1)))) (mC (.int 0))) (mVar 2)))
    (sPutL 1 (mNeg (mC (.int 1))) (mTup (mCons (mVar 2) (mCons (mBin fAdd (mBin fIx (mBin fIx (mMut 1) (mNeg (mC (.int 1)))) (mC (.int 1))) (mVar 3)) mNil))))
    (sApp 1 (mTup (mCons (mVar 2) (mCons (mVar 3) mNil))))))
  (sFrz 1 (sRet (mVar 1)))))
def m_rooms_in : FM := mFun 1 5 b_rooms_in
def c_rooms_in : FM := fun ds Q _ => ∃ L : List PRun, (ds = [.tup (L.map prD)] ∨ ds = [.list (L.map prD)]) ∧ L.length ≤ 2000 ∧ Q (.list ((mergeT (roomsOf L)).map pairD))
theorem c_rooms_in_ok : ∀ ds Q E, c_rooms_in ds Q E → m_rooms_in ds Q E := by
  rintro ds Q E ⟨L, hds, hl, q⟩
  have run : ∀ (z : D), forL (gT 3 (gsCons (gN 2) (gsCons (gN 3) (gsCons (gN 4) gsNil)))) (sIf (mAndT (mCmpT fNe (mMut 1) (mLst mNil)) (mCmpT fEq (mBin fIx (mBin fIx (mMut 1) (mNeg (mC (.int 1)))) (mC (.int 0))) (mVar 2)))
      (sPutL 1 (mNeg (mC (.int 1))) (mTup (mCons (mVar 2) (mCons (mBin fAdd (mBin fIx (mBin fIx (mMut 1) (mNeg (mC (.int 1)))) (mC (.int 1))) (mVar 3)) mNil))))
      (sApp 1 (mTup (mCons (mVar 2) (mCons (mVar 3) mNil))))) (L.map prD) [.v z, .m (.list []), .u, .u, .u] { endK Q E with nx := fun δ => sFrz 1 (sRet (mVar 1)) δ (endK Q E) } := fun z0 => by
    refine forL_inv (fun i δ => ∃ x y z, δ = [DV.v z0, .m (.list ((mergeT (roomsOf (L.take i))).map pairD)), x, y, z]) (fun i d δ N hd ⟨x, y, z, hδ⟩ hN => ?_) ⟨.u, .u, .u, rfl⟩ fun δ ⟨x, y, z, hδ⟩ => ?_
    · subst hδ
      rw [List.getElem?_map, Option.map_eq_some_iff] at hd
      obtain ⟨⟨r, n, f⟩, hp, rfl⟩ := hd
      have hi := (List.getElem?_eq_some_iff.mp hp).1
      have ht : L.take (i + 1) = L.take i ++ [(r, n, f)] := by rw [List.take_succ_eq_append_getElem hi, (List.getElem?_eq_some_iff.mp hp).2]
      have hm := mergeT_len (roomsOf (L.take i))
      rw [show (roomsOf (L.take i)).length = (L.take i).length from List.length_map .., List.length_take] at hm
      rw [show prD (r, n, f) = .tup [.int r, .int n, fillD f] from rfl]
      walk_at "dl"
      refine ⟨(fineR _).fine (by decide), (fineN_list (n := 0) (ds := []) fun d hd => by cases hd).fine (by decide), ?_⟩
      rw [eqD_list]
      have hN' := hN
      rw [ht, rooms_snoc, mergeT_snoc] at hN'
      rcases end_or (mergeT (roomsOf (L.take i))) with e | ⟨l, ⟨r0, n0⟩, e⟩
      · rw [e] at hN' ⊢
        simp only [List.map_nil, eqAll, Bool.not_true, Bool.false_eq_true, if_false]
        exact ⟨by simp, hN' _ ⟨_, _, _, rfl⟩⟩
      · rw [e, mstep_end] at hN'
        rw [e] at hm ⊢
        rw [List.map_append, List.map_cons, List.map_nil]
        rw [show eqAll (l.map pairD ++ [pairD (r0, n0)]) [] = false by cases l <;> rfl]
        simp only [Bool.not_false, if_true]
        rw [List.length_append, List.length_singleton] at hm
        refine ⟨_, atI_end, ?_⟩
        rw [show pairD (r0, n0) = .tup [.int r0, .int n0] from rfl]
        walk_at "dl"
        by_cases h : r0 = r
        · rw [if_pos h] at hN'
          rw [if_pos (by rw [decide_eq_true h])]
          refine ⟨_, atI_end, ?_⟩
          walk_at "dl"
          refine ⟨_, _, rfl, ix_last _ _, hN' _ ⟨.v (.int r), .v (.int n), .v (fillD f), ?_⟩⟩
          rw [List.map_append, List.set_append_right _ _ (Nat.le_refl _), Nat.sub_self] <;> rfl
        · rw [if_neg h] at hN'
          rw [if_neg (by rw [decide_eq_true_eq]; exact h)]
          refine ⟨?_, hN' _ ⟨.v (.int r), .v (.int n), .v (fillD f), by rw [List.map_append, List.map_append] <;> rfl⟩⟩
          rw [List.length_append, List.length_map, List.length_singleton]
          omega
    · subst hδ
      rw [List.length_map, List.take_length]
      walk_at "dl"
      exact q
  unfold m_rooms_in b_rooms_in
  rcases hds with rfl | rfl
  · have := run (.tup (L.map prD))
    walk_at "dl"
    exact this
  · have := run (.list (L.map prD))
    walk_at "dl"
    exact this
/-- sizes_in -/
def b_sizes_in : SM :=
  (sRet (mCompD2 [1, 2, 3, 4, 5] [4, 5] (mSeq (mVar 0)) (gT 3 (gsCons (gN 1) (gsCons (gN 2) (gsCons (gN 3) gsNil)))) mYes (mSeq (mVar 3)) (gT 2 (gsCons (gN 4) (gsCons (gN 5) gsNil))) mYes (mVar 4) (mC (.bool true))))
def m_sizes_in : FM := mFun 1 6 b_sizes_in
def c_sizes_in : FM := fun ds Q _ => ∃ L : List PRun, ds = [.list (L.map prD)] ∧ L.length ≤ 2000 ∧ (∀ x, x ∈ L → fillOk x.2.2) ∧ Q (.dict (trueT (SK L)))
theorem c_sizes_in_ok : ∀ ds Q E, c_sizes_in ds Q E → m_sizes_in ds Q E := by
  rintro ds Q E ⟨L, rfl, hl, hf, q⟩
  unfold m_sizes_in b_sizes_in
  have inner : ∀ (δ : List DV) (f : Tab) (acc : List Int) (K : List (Key × D) → Prop), δ.length = 6 → acc.length + f.length < 16777216 → K (trueT ((keysT f).foldl addK acc)) → compD2i (gT 2 (gsCons (gN 4) (gsCons (gN 5) gsNil))) mYes (mVar 4) (mC (.bool true)) δ (f.map pairD) (trueT acc) K := fun δ f => by
    induction f with
    | nil => exact fun acc K _ _ k => k
    | cons p r ih =>
      intro acc K hδ hl k
      match δ, hδ with
      | [a, b, c, d, e, g], hδ =>
        rw [List.map_cons, show pairD p = .tup [.int p.1, .int p.2] from rfl]
        unfold compD2i
        walk_at "dl"
        rw [List.length_cons] at hl
        refine ⟨?_, ?_⟩
        · unfold trueT; rw [List.length_map]; omega
        · rw [put_true]
          refine ih _ _ hδ ?_ k
          unfold addK
          split
          · omega
          · rw [List.length_append, List.length_singleton]; omega
  have outer : ∀ (δ : List DV) (M : List PRun) (acc : List Int) (Q : D → Prop), δ.length = 6 → acc.length + (flatP M).length < 16777216 → Q (.dict (trueT ((keysT (flatP M)).foldl addK acc))) → compD2 [4, 5] (gT 3 (gsCons (gN 1) (gsCons (gN 2) (gsCons (gN 3) gsNil)))) mYes (mSeq (mVar 3)) (gT 2 (gsCons (gN 4) (gsCons (gN 5) gsNil))) mYes (mVar 4) (mC (.bool true)) δ (M.map prD) (trueT acc) Q := fun δ M => by
    induction M with
    | nil => exact fun acc K _ _ k => k
    | cons x r ih =>
      intro acc K hδ hl k
      match δ, hδ with
      | [a, b, c, d, e, g], hδ =>
        obtain ⟨rm, n, f⟩ := x
        rw [List.map_cons, show prD (rm, n, f) = .tup [.int rm, .int n, .tup (f.map pairD)] from rfl]
        unfold compD2
        walk_at "dl"
        rw [flat_cons, List.length_append, List.length_map] at hl
        have hl : acc.length + (f.length + (flatP r).length) < 16777216 := hl
        refine inner _ f acc _ rfl (by omega) ?_
        have ek : keysT (flatP ((rm, n, f) :: r)) = keysT f ++ keysT (flatP r) := by
          rw [flat_cons]
          show List.map _ _ = _
          rw [List.map_append]
          congr 1
          exact keys_fill f n
        rw [ek, List.foldl_append] at k
        refine ih _ _ hδ ?_ k
        have := (foldK' (keysT f) acc)
        rw [show (keysT f).length = f.length from List.length_map ..] at this
        omega
  walk_at "dl"
  have hz := flatP_len hf
  exact outer _ _ [] _ rfl (by show 0 + _ < _; omega) q
/-- Packing.__init__ -/
def b_Packing_init : SM :=
  (sSeq (sIf (mOrT (mCmpT fGt (mB fLen (mCons (mVar 1) mNil)) (mC (.int 2000))) (mNotT (mTest (mB fAll (mCons (mComp [2] (mSeq (mVar 1)) (gN 2) mYes (mCall c_is_run (mCons (mVar 2) mNil))) mNil)))))
  (sRaise0 "InvalidPacking")
  sNext)
  (sSeq (sSet 3 (mCall c_joined_runs (mCons (mVar 1) mNil)))
  (sIf (mOrT (mCmpT fGt (mB fLenY (mCons (mCall c_sizes_in (mCons (mVar 3) mNil)) mNil)) (mC (.int 12))) (mCmpT fGt (mB fLen (mCons (mCall c_rooms_in (mCons (mVar 3) mNil)) mNil)) (mC (.int 40))))
  (sRaise0 "InvalidPacking")
  sNext)))
def v_Packing_init : TM :=
  (mB fTuple (mCons (mVar 3) mNil))
def m_Packing_init : FM := mFunIS 4 b_Packing_init v_Packing_init
def c_Packing_init : FM := fun ds Q _ => ∃ L : List PRun, ds = L.map prD ∧ L.length ≤ 2000 ∧ (∀ x, x ∈ L → prOk x) ∧ (SK (joinR L)).length ≤ 12 ∧ (mergeT (roomsOf L)).length ≤ 40 ∧ Q (.tup ((joinR L).map prD))
theorem c_Packing_init_ok : ∀ ds Q E, c_Packing_init ds Q E → m_Packing_init ds Q E := by
  rintro ds Q E ⟨L, rfl, hl, hx, h12, h40, q⟩
  unfold m_Packing_init b_Packing_init v_Packing_init
  walk_at "dl"
  refine ⟨by rw [List.length_map]; omega, fun x Hc => ?_⟩
  rw [List.length_map, if_neg (by rw [decide_eq_true_eq]; omega)]
  refine compL_map (fun _ => .bool true) (fun d hd R S hR => ?_) ?_
  · obtain ⟨y, hy, rfl⟩ := List.mem_map.mp hd
    walk_at "dl"
    exact ⟨y, rfl, hx y hy, hR⟩
  · refine ⟨L.map fun _ => true, by rw [List.nil_append, List.map_map, List.map_map] <;> rfl, _, rfl, ?_⟩
    rw [if_neg (by simp)]
    refine ⟨L, rfl, hl, joinR L, rfl, Nat.le_trans (joinR_len L) hl, join_fill (P := fillOk) fun x hx' => (hx x hx').2.1, ?_⟩
    walk_at "dl"
    rw [show (trueT (SK (joinR L))).length = (SK (joinR L)).length from List.length_map .., if_neg (by rw [decide_eq_true_eq]; omega)]
    refine ⟨joinR L, .inr rfl, Nat.le_trans (joinR_len L) hl, ?_⟩
    rw [rooms_join]
    walk_at "dl"
    rw [List.length_map, if_neg (by rw [decide_eq_true_eq]; omega)]
    exact ⟨(finePT _).1, q⟩
/-- Filler.packing -/
def b_Filler_packing : SM :=
  (sRet (mMakeIS "Packing" c_Packing_init (mFld "Filler" (mVar 0) "own_runs")))
def m_Filler_packing : FM := mFun 1 1 b_Filler_packing
def c_Filler_packing : FM := fun ds Q _ => ∃ R : List PRun, ds = [fillerD R] ∧ R.length ≤ 2000 ∧ (∀ x, x ∈ R → prOk x) ∧ (SK (joinR R)).length ≤ 12 ∧ (mergeT (roomsOf R)).length ≤ 40 ∧ Q (packD (joinR R))
theorem c_Filler_packing_ok : ∀ ds Q E, c_Filler_packing ds Q E → m_Filler_packing ds Q E := by
  rintro ds Q E ⟨R, rfl, hl, hx, h12, h40, q⟩
  unfold m_Filler_packing b_Filler_packing fillerD
  walk_at "dl"
  exact ⟨R, rfl, hl, hx, h12, h40, q⟩
/-- Filler.order -/
def b_Filler_order : SM :=
  (sSeq (sSet 3 (mComp [4, 5, 6] (mSeq (mFld "Filler" (mVar 0) "own_runs")) (gT 3 (gsCons (gN 4) (gsCons (gN 5) (gsCons (gN 6) gsNil)))) mYes (mBin fSub (mVar 4) (mCall c_load_in (mCons (mVar 6) mNil)))))
  (sSeq (sSet 7 (mComp [8] (mRange1 (mCons (mB fLen (mCons (mVar 3) mNil)) mNil)) (gN 8) (mCmpT fGe (mBin fIx (mVar 3) (mVar 8)) (mVar 1)) (mVar 8)))
  (sSeq (sIf (mCmpT fEq (mVar 2) (mC (.str "last")))
  (sRet (mRev (mVar 7)))
  sNext)
  (sRet (mIf (mCmpT fEq (mVar 2) (mC (.str "tightest"))) mBot (mVar 7))))))
def m_Filler_order : FM := mFun 3 9 b_Filler_order
/-- with_more -/
def b_with_more : SM :=
  (sSeq (sSetM 3 (mB fDictP (mCons (mB fList (mCons (mVar 0) mNil)) mNil)))
  (sSeq (sPut 3 (mVar 1) (mBin fAdd (mDGet2 (mMut 3) (mVar 1) (mC (.int 0))) (mVar 2)))
  (sFrz 3 (sRet (mB fTuple (mCons (mB fSortI (mCons (mListItems (mVar 3)) mNil)) mNil))))))
def m_with_more : FM := mFun 3 4 b_with_more
/-- filled -/
def b_filled : SM :=
  (sSeq (sAsg (mVar 0) (gT 3 (gsCons (gN 3) (gsCons (gN 4) (gsCons (gN 5) gsNil)))))
  (sRet (mIf (mCmpT fGt (mVar 2) (mC (.int 0))) (mTup (mCons (mVar 3) (mCons (mVar 4) (mCons (mCall m_with_more (mCons (mVar 5) (mCons (mVar 1) (mCons (mVar 2) mNil)))) mNil)))) (mVar 0))))
def m_filled : FM := mFun 3 6 b_filled
/-- Filler.put_in -/
def b_Filler_put_in : SM :=
  (sSeq (sAsg (mBin fIx (mFld "Filler" (mVar 0) "own_runs") (mVar 1)) (gT 3 (gsCons (gN 5) (gsCons (gN 6) (gsCons (gN 7) gsNil)))))
  (sSeq (sSet 8 (mBin fDiv (mBin fSub (mVar 5) (mCall c_load_in (mCons (mVar 7) mNil))) (mVar 2)))
  (sSeq (sIf (mCmpT fGe (mVar 3) (mBin fMul (mVar 8) (mVar 6)))
  (sRet (mTup (mCons (mLst (mCons (mCall m_filled (mCons (mTup (mCons (mVar 5) (mCons (mVar 6) (mCons (mVar 7) mNil)))) (mCons (mVar 2) (mCons (mVar 8) mNil)))) mNil)) (mCons (mBin fSub (mVar 3) (mBin fMul (mVar 8) (mVar 6))) mNil))))
  sNext)
  (sSeq (sPar 9 10 (mCons (mBin fDiv (mVar 3) (mVar 8)) (mCons (mBin fMod (mVar 3) (mVar 8)) mNil)))
  (sSeq (sSetM 11 (mIf (mCmpT fGt (mVar 9) (mC (.int 0))) (mLst (mCons (mCall m_filled (mCons (mTup (mCons (mVar 5) (mCons (mVar 9) (mCons (mVar 7) mNil)))) (mCons (mVar 2) (mCons (mVar 8) mNil)))) mNil)) (mLst mNil)))
  (sSeq (sIf (mCmpT fGt (mVar 10) (mC (.int 0)))
  (sApp 11 (mCall m_filled (mCons (mTup (mCons (mVar 5) (mCons (mC (.int 1)) (mCons (mVar 7) mNil)))) (mCons (mVar 2) (mCons (mVar 10) mNil)))))
  sNext)
  (sSeq (sSet 12 (mBin fSub (mBin fSub (mVar 6) (mVar 9)) (mB fInt (mCons (mCmp fGt (mVar 10) (mC (.int 0))) mNil))))
  (sSeq (sIf (mCmpT fGt (mVar 12) (mC (.int 0)))
  (sApp 11 (mTup (mCons (mVar 5) (mCons (mVar 12) (mCons (mVar 7) mNil)))))
  sNext)
  (sFrz 11 (sRet (mTup (mCons (mIf (mCmpT fEq (mVar 4) (mC (.str "last"))) (mRev (mVar 11)) (mVar 11)) (mCons (mC (.int 0)) mNil)))))))))))))
def m_Filler_put_in : FM := mFun 5 13 b_Filler_put_in
/-- Filler.put -/
def b_Filler_put : SM :=
  (sSeq (sSetM 4 (mC (.dict [])))
  (sSeq (sFor (mSeq (mLendS 0 (mMeth "Filler" "order" m_Filler_order (mVar 0) (mCons (mVar 1) (mCons (mVar 3) mNil))))) (gN 5)
  (sSeq (sIf (mCmpT fEq (mVar 2) (mC (.int 0)))
    sBreak
    sNext)
    (sAsg (mLendS 0 (mMeth "Filler" "put_in" m_Filler_put_in (mVar 0) (mCons (mVar 5) (mCons (mVar 1) (mCons (mVar 2) (mCons (mVar 3) mNil)))))) (gT 2 (gsCons (gPut 4 (mVar 5)) (gsCons (gN 2) gsNil))))))
  (sFrz 4 (sSeq (sSetM 6 (mLst mNil))
  (sSeq (sFor (mEnumL (mCons (mSFld 0 "Filler" "own_runs") mNil)) (gT 2 (gsCons (gN 5) (gsCons (gN 7) gsNil)))
  (sExt 6 (mDGet2 (mVar 4) (mVar 5) (mLst (mCons (mVar 7) mNil)))))
  (sFrz 6 (sSeq (sFld 0 "Filler" "own_runs" (mVar 6))
  (sRet (mVar 2)))))))))
def m_Filler_put : MM := mFunM 4 8 b_Filler_put
/-- is_row -/
def b_is_row : SM :=
  (sSeq (sIf (mOrT (mNotT (mTest (mIsiT owns "tuple" (mVar 0)))) (mCmpT fGt (mB fLen (mCons (mVar 0) mNil)) (mC (.int 200))))
  (sRet (mC (.bool false)))
  sNext)
  (sSeq (sFor (mSeq (mVar 0)) (gN 1)
  (sIf (mOrT (mNotT (mTest (mIsiT owns "tuple" (mVar 1)))) (mOrT (mCmpT fNe (mB fLen (mCons (mVar 1) mNil)) (mC (.int 2))) (mOrT (mNotT (mTest (mCall c_is_size (mCons (mBin fIx (mVar 1) (mC (.int 0))) mNil)))) (mNotT (mTest (mCall c_is_size (mCons (mBin fIx (mVar 1) (mC (.int 1))) mNil)))))))
    (sRet (mC (.bool false)))
    sNext))
  (sRet (mCmp fLe (mB fLenY (mCons (mCompD [1] (mSeq (mVar 0)) (gN 1) mYes (mBin fIx (mVar 1) (mC (.int 0))) (mC (.bool true))) mNil)) (mC (.int 12))))))
def m_is_row : FM := mFun 1 2 b_is_row
def rowOB : D → Bool
  | .tup xs => decide (xs.length ≤ 200) && xs.all partB
  | _ => false
def rowFew (T : Tab) : Bool := decide (T.length ≤ 200) && decide (((keysT T).foldl addK []).length ≤ 12)
def c_is_row : FM := fun ds Q _ => (∃ T : Tab, ds = [.tup (T.map pairD)] ∧ T.length ≤ 1000 ∧ (∀ p, p ∈ T → (1 ≤ p.1 ∧ p.1 < 10 ^ 200) ∧ 1 ≤ p.2 ∧ p.2 < 10 ^ 200) ∧ Q (.bool (rowFew T))) ∨ ∃ d, ds = [d] ∧ okF d ∧ rowOB d = false ∧ Q (.bool false)
theorem row_keys {Q : D → Prop} {x0 : D} : ∀ (T : Tab) (acc : List Int) (z : DV), acc.length + T.length < 16777216 → Q (.dict (trueT ((keysT T).foldl addK acc))) → compD (gN 1) mYes (mBin fIx (mVar 1) (mC (.int 0))) (mC (.bool true)) [.v x0, z] (T.map pairD) (trueT acc) Q := fun T => by
  induction T with
  | nil => exact fun acc z _ k => k
  | cons p r ih =>
    intro acc z hl k
    rw [List.map_cons, show pairD p = .tup [.int p.1, .int p.2] from rfl]
    unfold compD
    walk_at "dl"
    rw [put_true]
    rw [List.length_cons] at hl
    refine ih _ _ ?_ k
    unfold addK
    split
    · omega
    · rw [List.length_append, List.length_singleton]; omega
theorem c_is_row_ok : ∀ ds Q E, c_is_row ds Q E → m_is_row ds Q E := by
  rintro ds Q E (⟨T, rfl, hl, hb, q⟩ | ⟨d, rfl, hd, hr, q⟩)
  · unfold m_is_row b_is_row
    walk_at "dl"
    rw [isx_tup (.inl rfl)]
    refine ⟨_, rfl, ?_⟩
    rw [show (D.tup (T.map pairD)).isT = true from rfl, if_neg (by decide), List.length_map]
    by_cases h2 : T.length ≤ 200
    rotate_left
    · rw [if_pos (by rw [decide_eq_true_eq]; omega)]
      rw [show rowFew T = false from by unfold rowFew; rw [decide_eq_false h2]; rfl] at q
      exact q
    rw [if_neg (by rw [decide_eq_true_eq]; omega)]
    refine forL_inv (fun i δ => ∃ x, δ = [DV.v (.tup (T.map pairD)), x]) (fun i d δ N hd ⟨x, hδ⟩ hN => ?_) ⟨_, rfl⟩ fun δ ⟨x, hδ⟩ => ?_
    · subst hδ
      rw [List.getElem?_map, Option.map_eq_some_iff] at hd
      obtain ⟨p, hp, rfl⟩ := hd
      have hp := List.mem_of_getElem? hp
      obtain ⟨h1, h3⟩ := hb p hp
      have hN := hN _ ⟨.v (pairD p), rfl⟩
      rw [show pairD p = .tup [.int p.1, .int p.2] from rfl] at hN ⊢
      walk_at "dl"
      rw [isx_tup (.inl rfl)]
      refine ⟨_, rfl, ?_⟩
      rw [show (D.tup [.int p.1, .int p.2]).isT = true from rfl, if_neg (by decide), if_neg (by decide)]
      refine isZ rfl ⟨_, rfl, ?_⟩
      rw [siz_ok h1, if_neg (by decide)]
      refine isZ rfl ⟨_, rfl, ?_⟩
      rw [siz_ok h3, if_neg (by decide)]
      exact hN
    · subst hδ
      walk_at "dl"
      refine row_keys T [] _ (by show 0 + _ < _; omega) ?_
      have e0 : ((trueT ((keysT T).foldl addK [])).length : Int) = (((keysT T).foldl addK []).length : Int) := by unfold trueT; rw [List.length_map]
      unfold fLenY
      dsimp only
      rw [e0]
      unfold fCmp
      rw [show rowFew T = decide (((keysT T).foldl addK []).length ≤ 12) from by unfold rowFew; rw [decide_eq_true h2, Bool.true_and]] at q
      have e : decide ((((keysT T).foldl addK []).length : Int) ≤ 12) = decide (((keysT T).foldl addK []).length ≤ 12) := by
        rw [decide_eq_decide]; omega
      walk_at "dl"
      rw [e]
      exact q
  · by_cases hT : ∃ xs, d = .tup xs
    rotate_left
    · have e1 : d.isT = false := by
        cases d <;> first | rfl | exact absurd ⟨_, rfl⟩ hT
      unfold m_is_row b_is_row
      walk_at "dl"
      rw [isx_tup hd.1]
      refine ⟨_, rfl, ?_⟩
      rw [e1, if_pos (by decide)]
      exact q
    obtain ⟨xs, rfl⟩ := hT
    have ho := hd.2 xs rfl
    unfold m_is_row b_is_row
    walk_at "dl"
    rw [isx_tup hd.1]
    refine ⟨_, rfl, ?_⟩
    rw [show (D.tup xs).isT = true from rfl, if_neg (by decide)]
    by_cases hl : xs.length ≤ 200
    rotate_left
    · rw [if_pos (by rw [decide_eq_true_eq]; omega)]
      exact q
    rw [if_neg (by rw [decide_eq_true_eq]; omega)]
    have bad : xs.all partB = false := by
      have hr : (decide (xs.length ≤ 200) && xs.all partB) = false := hr
      rw [decide_eq_true hl, Bool.true_and] at hr
      exact hr
    refine forL_ind (fun ds δ => ∃ x : DV, xs.all partB = ds.all partB ∧ (∀ p, p ∈ ds → p ∈ xs) ∧ δ = [.v (.tup xs), x]) (fun δ ⟨x, e, hm, hδ⟩ => ?_) (fun d ds δ N ⟨x, e, hm, hδ⟩ hN => ?_) ⟨.u, rfl, fun _ h => h, rfl⟩
    · rw [bad] at e
      cases e
    · subst hδ
      have hmd := hm d List.mem_cons_self
      have od := ho d hmd
      by_cases hT : ∃ ys, d = .tup ys
      rotate_left
      · have e1 : d.isT = false := by
          cases d <;> first | rfl | exact absurd ⟨_, rfl⟩ hT
        walk_at "dl"
        rw [isx_tup od.1]
        refine ⟨_, rfl, ?_⟩
        rw [e1, if_pos (by decide)]
        exact q
      · obtain ⟨ys, rfl⟩ := hT
        have oy := od.2 ys rfl
        walk_at "dl"
        rw [isx_tup od.1]
        refine ⟨_, rfl, ?_⟩
        rw [show (D.tup ys).isT = true from rfl, if_neg (by decide)]
        by_cases h2 : ys.length = 2
        rotate_left
        · rw [if_pos (by rw [decide_eq_false (by omega)]; rfl)]
          exact q
        rw [if_neg (by rw [decide_eq_true (by omega)]; decide)]
        match ys, h2, oy with
        | [a, b], _, oy =>
          have e2 : partB (.tup [a, b]) = (sizD a && sizD b) := rfl
          walk_at "dl"
          refine isZ (oy a (by simp)) ⟨_, rfl, ?_⟩
          by_cases ha : sizD a = true
          rotate_left
          · rw [Bool.not_eq_true] at ha
            rw [ha, if_pos (by decide)]
            exact q
          rw [ha, if_neg (by decide)]
          refine isZ (oy b (by simp)) ⟨_, rfl, ?_⟩
          by_cases hb : sizD b = true
          rotate_left
          · rw [Bool.not_eq_true] at hb
            rw [hb, if_pos (by decide)]
            exact q
          rw [hb, if_neg (by decide)]
          exact hN _ ⟨_, by rw [e, List.all_cons, e2, ha, hb]; rfl, fun p hp => hm p (List.mem_cons_of_mem _ hp), rfl⟩
/-- require_row -/
def b_require_row : SM :=
  (sIf (mNotT (mTest (mCall c_is_row (mCons (mVar 0) mNil))))
  (sRaise0 "InvalidOperation")
  sNext)
def m_require_row : FM := mFun 1 1 b_require_row
def c_require_row : FM := fun ds Q E => (∃ T : Tab, ds = [.tup (T.map pairD)] ∧ T.length ≤ 1000 ∧ (∀ p, p ∈ T → (1 ≤ p.1 ∧ p.1 < 10 ^ 200) ∧ 1 ≤ p.2 ∧ p.2 < 10 ^ 200) ∧ rowFew T = true ∧ Q .none) ∨ ∃ d, ds = [d] ∧ okF d ∧ rowOB d = false ∧ E (noE "InvalidOperation")
theorem c_require_row_ok : ∀ ds Q E, c_require_row ds Q E → m_require_row ds Q E := by
  rintro ds Q E (⟨T, rfl, hl, hb, hf, q⟩ | ⟨d, rfl, hd, hr, q⟩)
  · unfold m_require_row b_require_row
    walk_at "dl"
    refine .inl ⟨T, rfl, hl, hb, ?_⟩
    rw [hf]
    refine ⟨_, rfl, ?_⟩
    rw [if_neg (by decide)]
    exact q
  · unfold m_require_row b_require_row
    walk_at "dl"
    refine .inr ⟨d, rfl, hd, hr, _, rfl, ?_⟩
    rw [if_pos (by decide)]
    exact q
/-- pack_row -/
def b_pack_row : SM :=
  (sSeq (sExpr (mCall c_require_row (mCons (mVar 0) mNil)))
  (sSeq (sExpr (mCall c_require_store (mCons (mVar 1) mNil)))
  (sSeq (sParM 2 3 (mMake "Filler" c_Filler_init (mCons (mVar 1) mNil)) (mC (.int 0)))
  (sSeq (sFor (mSeq (mVar 0)) (gT 2 (gsCons (gN 4) (gsCons (gN 5) gsNil)))
  (sSeq (sCallM 2 6 "Filler" "put" m_Filler_put (mCons (mVar 4) (mCons (mVar 5) (mCons (mC (.str "first")) mNil))))
    (sSeq (sAug 3 fAugAdd (mBin fSub (mVar 5) (mVar 6)))
    (sIf (mCmpT fGt (mVar 6) (mC (.int 0)))
    sBreak
    sNext))))
  (sFrz 2 (sRet (mTup (mCons (mMeth0 "Filler" "packing" c_Filler_packing (mVar 2)) (mCons (mVar 3) mNil)))))))))
def m_pack_row : FM := mFun 2 7 b_pack_row
abbrev oneT : Tab := [((1 : Int), (1 : Int))]
theorem one_tab : ∀ p, p ∈ oneT → (1 ≤ p.1 ∧ p.1 < 10 ^ 200) ∧ 1 ≤ p.2 ∧ p.2 < 10 ^ 200 := fun p hp => by
  rw [List.mem_singleton] at hp
  subst hp
  exact ⟨⟨by decide, by decide +kernel⟩, by decide, by decide +kernel⟩
def rowE (E : Er → Prop) (a b : D) : Prop := (okF a ∧ rowOB a = false ∧ E (noE "InvalidOperation")) ∨ (a = .tup (oneT.map pairD) ∧ okX owns sls b ∧ isCX "Store" b = false ∧ E (noE "InvalidStore"))
def c_pack_row : FM := fun ds Q E => (∃ a b, ds = [a, b] ∧ rowE E a b) ∨ ∃ L : Runs, ds = [.tup [], storeD L] ∧ L.length ≤ 40 ∧ (∀ p, p ∈ L → (1 ≤ p.1 ∧ p.1 < 10 ^ 200) ∧ 1 ≤ p.2 ∧ p.2 < 10 ^ 200) ∧ Q (.tup [packD (joinR (emptyR L)), .int 0])
theorem c_pack_row_ok : ∀ ds Q E, c_pack_row ds Q E → m_pack_row ds Q E := by
  rintro ds Q E (⟨a, b, rfl, hh⟩ | ⟨L, rfl, hl, hb, q⟩)
  · unfold m_pack_row b_pack_row
    walk_at "dl"
    rcases hh with ⟨ha, h, q⟩ | ⟨rfl, hb, h, q⟩
    · exact .inr ⟨a, rfl, ha, h, q⟩
    · refine .inl ⟨oneT, rfl, by decide, one_tab, by decide +kernel, b, rfl, hb, ?_⟩
      rw [h, if_neg (by decide)]
      exact q
  · unfold m_pack_row b_pack_row
    walk_at "dl"
    refine .inl ⟨[], rfl, by decide, fun p hp => (by cases hp), by decide +kernel, _, rfl, .inl (.inr ⟨_, _, rfl, by decide⟩), ?_⟩
    rw [if_pos (show isCX "Store" (storeD L) = true from rfl)]
    refine ⟨rfl, L, rfl, ?_⟩
    unfold forL
    walk_at "dl"
    refine ⟨_, rfl, rfl, ?_⟩
    have hm : ∀ x, x ∈ emptyR L → ∃ p, p ∈ L ∧ x = (p.1, p.2, []) := fun x hx => by
      obtain ⟨p, hp, rfl⟩ := List.mem_map.mp hx
      exact ⟨p, hp, rfl⟩
    have z : (emptyR L).length = L.length := List.length_map ..
    refine ⟨emptyR L, rfl, by omega, fun x hx => ?_, ?_, ?_, ?_⟩
    · obtain ⟨p, hp, rfl⟩ := hm x hx
      obtain ⟨h1, h2⟩ := hb p hp
      exact ⟨⟨h1, h2⟩, ⟨Nat.zero_le _, fun p hp => (by cases hp), rfl⟩, by show (0 : Int) ≤ p.1; omega⟩
    · have : SK (joinR (emptyR L)) = [] := by
        have hk : ∀ k, k ∈ keysT (flatP (emptyR L)) → k ∈ ([] : List Int) := fun k hk => by
          exfalso
          have : flatP (emptyR L) = [] := by
            unfold flatP
            rw [List.flatMap_eq_nil_iff]
            intro x hx
            obtain ⟨p, hp, rfl⟩ := hm x hx
            rfl
          rw [this] at hk
          cases hk
        have := SK_few (L := emptyR L) (U := []) hk
        exact List.eq_nil_of_length_eq_zero (by simpa using this)
      rw [this]
      decide
    · exact Nat.le_trans (mergeT_len _) (by unfold roomsOf; rw [List.length_map]; omega)
    · exact q
/-- is_taken -/
def b_is_taken : SM :=
  (sRet (mCmp fEq (mBin fIx (mCall c_pack_row (mCons (mVar 0) (mCons (mVar 1) mNil))) (mC (.int 1))) (mB fSum (mCons (mComp [2, 3] (mSeq (mVar 0)) (gT 2 (gsCons (gN 2) (gsCons (gN 3) gsNil))) mYes (mVar 3)) mNil))))
def m_is_taken : FM := mFun 2 4 b_is_taken
def c_is_taken : FM := fun ds Q E => ∃ a b, ds = [a, b] ∧ rowE E a b
theorem c_is_taken_ok : ∀ ds Q E, c_is_taken ds Q E → m_is_taken ds Q E := by
  rintro ds Q E ⟨a, b, rfl, h⟩
  unfold m_is_taken b_is_taken
  walk_at "dl"
  exact .inl ⟨a, b, rfl, h⟩
/-- lot_of -/
def b_lot_of : SM :=
  (sSeq (sExpr (mCall c_require_row (mCons (mVar 0) mNil)))
  (sSeq (sSetM 1 (mC (.dict [])))
  (sSeq (sFor (mSeq (mVar 0)) (gT 2 (gsCons (gN 2) (gsCons (gN 3) gsNil)))
  (sPut 1 (mVar 2) (mBin fAdd (mDGet2 (mMut 1) (mVar 2) (mC (.int 0))) (mVar 3))))
  (sFrz 1 (sRet (mMake "Lot" c_Lot_init (mCons (mVar 1) mNil)))))))
def m_lot_of : FM := mFun 1 4 b_lot_of
def c_lot_of : FM := fun ds _ E => ∃ d, ds = [d] ∧ okF d ∧ rowOB d = false ∧ E (noE "InvalidOperation")
theorem c_lot_of_ok : ∀ ds Q E, c_lot_of ds Q E → m_lot_of ds Q E := by
  rintro ds Q E ⟨d, rfl, hd, hr, q⟩
  unfold m_lot_of b_lot_of
  walk_at "dl"
  exact .inr ⟨d, rfl, hd, hr, q⟩
/-- Lot.counts -/
def b_Lot_counts : SM :=
  (sRet (mB fDictC (mCons (mFld "Lot" (mVar 0) "own_counts") mNil)))
def m_Lot_counts : FM := mFun 1 1 b_Lot_counts
def c_Lot_counts : FM := fun ds Q _ => ∃ L, ds = [lotD L] ∧ Q (.dict (tabD L))
theorem c_Lot_counts_ok : ∀ ds Q E, c_Lot_counts ds Q E → m_Lot_counts ds Q E := by
  rintro ds Q E ⟨L, rfl, q⟩
  unfold m_Lot_counts b_Lot_counts
  unfold lotD
  walk_at "dl"
  exact ⟨_, rfl, q⟩
/-- is_rule -/
def b_is_rule : SM :=
  (sRet (mAnd (mIsiT owns "str" (mVar 0)) (mCmp (fInTS false) (mVar 0) (mC (.tup ((["first", "last", "tightest"] : List Str).map D.str))))))
def m_is_rule : FM := mFun 1 1 b_is_rule
def ruleB : D → Bool
  | .str x => decide (x ∈ (["first", "last", "tightest"] : List Str))
  | _ => false
def c_is_rule : FM := fun ds Q _ => ∃ d, ds = [d] ∧ okB owns d ∧ Q (.bool (ruleB d))
theorem c_is_rule_ok : ∀ ds Q E, c_is_rule ds Q E → m_is_rule ds Q E := by
  rintro ds Q E ⟨d, rfl, hd, q⟩
  unfold m_is_rule b_is_rule
  walk_at "dl"
  rw [isx_str hd]
  cases d with
  | str x =>
    refine ⟨_, rfl, ?_⟩
    rw [show (D.str x).isS = true from rfl, if_pos rfl]
    refine ⟨x, ["first", "last", "tightest"], rfl, rfl, ?_⟩
    rw [Bool.false_xor]
    exact q
  | _ =>
    refine ⟨_, rfl, ?_⟩
    rw [if_neg (fun z => by cases z)]
    exact q
/-- pack -/
def b_pack : SM :=
  (sSeq (sExpr (mCall c_require_lot (mCons (mVar 0) mNil)))
  (sSeq (sExpr (mCall c_require_store (mCons (mVar 1) mNil)))
  (sSeq (sIf (mNotT (mTest (mCall c_is_rule (mCons (mVar 2) mNil))))
  (sRaise0 "InvalidOperation")
  sNext)
  (sSeq (sParMM 3 4 (mMake "Filler" c_Filler_init (mCons (mVar 1) mNil)) (mC (.dict [])))
  (sSeq (sFor (mSeq (mRev (mListItems (mProp "Lot" c_Lot_counts (mVar 0))))) (gT 2 (gsCons (gN 5) (gsCons (gN 6) gsNil)))
  (sSeq (sIf (mCmpT fNeY (mMut 4) (mC (.dict []))) (sSet 7 (mVar 6)) (sCallM 3 7 "Filler" "put" m_Filler_put (mCons (mVar 5) (mCons (mVar 6) (mCons (mVar 2) mNil)))))
    (sIf (mCmpT fGt (mVar 7) (mC (.int 0)))
    (sPut 4 (mVar 5) (mVar 7))
    sNext)))
  (sFrz 3 (sFrz 4 (sRet (mTup (mCons (mMeth0 "Filler" "packing" c_Filler_packing (mVar 3)) (mCons (mMake "Lot" c_Lot_init (mCons (mVar 4) mNil)) mNil)))))))))))
def m_pack : FM := mFun 3 8 b_pack
def c_pack : FM := fun ds Q E => ∃ a b r, ds = [a, b, r] ∧ okX owns sls a ∧ ((isCX "Lot" a = false ∧ E (noE "InvalidLot")) ∨ (isCX "Lot" a = true ∧ okX owns sls b ∧ ((isCX "Store" b = false ∧ E (noE "InvalidStore")) ∨ (isCX "Store" b = true ∧ okB owns r ∧ ruleB r = false ∧ E (noE "InvalidOperation")))))
theorem c_pack_ok : ∀ ds Q E, c_pack ds Q E → m_pack ds Q E := by
  rintro ds Q E ⟨a, b, r, rfl, ha, hh⟩
  unfold m_pack b_pack
  walk_at "dl"
  rcases hh with ⟨h, q⟩ | ⟨h, hb, ⟨h2, q⟩ | ⟨h2, hr, h3, q⟩⟩
  · refine ⟨a, rfl, ha, ?_⟩
    rw [h, if_neg (by decide)]
    exact q
  · refine ⟨a, rfl, ha, ?_⟩
    rw [h, if_pos rfl]
    refine ⟨b, rfl, hb, ?_⟩
    rw [h2, if_neg (by decide)]
    exact q
  · refine ⟨a, rfl, ha, ?_⟩
    rw [h, if_pos rfl]
    refine ⟨b, rfl, hb, ?_⟩
    rw [h2, if_pos rfl]
    refine ⟨r, rfl, hr, _, rfl, ?_⟩
    rw [h3, if_pos (by decide)]
    exact q
/-- _law_pick -/
def b_law_pick : SM :=
  (sRet (mBin fIx (mVar 1) (mCall mRoll (mCons (mVar 0) (mCons (mB fLen (mCons (mVar 1) mNil)) mNil)))))
def m_law_pick : FM := mFun 2 2 b_law_pick
def c_law_pick : FM := fun ds Q _ => ∃ xs : List D, (ds = [.dice, .list xs] ∨ ds = [.dice, .tup xs]) ∧ 0 < xs.length ∧ xs.length < 1073741824 ∧ ∀ x, x ∈ xs → Q x
theorem c_law_pick_ok : ∀ ds Q E, c_law_pick ds Q E → m_law_pick ds Q E := by
  rintro ds Q E ⟨xs, hd, h0, h1, q⟩
  unfold m_law_pick b_law_pick
  rcases hd with rfl | rfl
  all_goals
    walk_at "dl"
    refine ⟨_, rfl, by omega, by omega, fun r r0 r1 => ?_⟩
    obtain ⟨x, ex, hx⟩ := atI_of r0 r1
    exact ⟨x, ex, q x hx⟩
/-- _law_word -/
def b_law_word (f : Addr) (Hc : Hp) (tl : TL) : SM :=
  (sSeq (sTry xnames xisa (sExpr (mThk 0 f Hc tl)) [("InvalidLot", (hPlain (sRet (mC (.str "lot"))))), ("InvalidStore", (hPlain (sRet (mC (.str "store"))))), ("InvalidOperation", (hPlain (sRet (mC (.str "operation")))))])
  (sRet (mC (.str "fine"))))
def m_law_word : TL → TL := fun tl Q E => ∀ f Hc, mFun 1 1 (b_law_word f Hc tl) [.opq f Hc] Q E
def metH : List (Str × Str × Option Str) := [("InvalidLot", "lot", none), ("InvalidStore", "store", none), ("InvalidOperation", "operation", none)]
theorem met_of {tl : TL} {Q : D → Prop} {E : Er → Prop} (h : tl (fun _ => Q (.str "fine")) fun er => er.cls ∈ xnames ∧ metG xisa Q E er metH) : m_law_word tl Q E := by
  unfold m_law_word b_law_word
  walk_at "dl"
  exact fun _ _ => h
abbrev metE (Q : D → Prop) (E : Er → Prop) (er : Er) : Prop := er.cls ∈ xnames ∧ metG xisa Q E er metH
theorem met_lot {Q : D → Prop} {E : Er → Prop} (q : Q (.str "lot")) : metE Q E (noE "InvalidLot") := ⟨by decide +kernel, metG_plain (c := "InvalidLot") (by decide +kernel) q⟩
theorem met_store {Q : D → Prop} {E : Er → Prop} (q : Q (.str "store")) : metE Q E (noE "InvalidStore") := ⟨by decide +kernel, metG_plain (c := "InvalidStore") (by decide +kernel) q⟩
theorem met_oper {Q : D → Prop} {E : Er → Prop} (q : Q (.str "operation")) : metE Q E (noE "InvalidOperation") := ⟨by decide +kernel, metG_plain (c := "InvalidOperation") (by decide +kernel) q⟩
/-- _law_right -/
def b_law_right : SM :=
  (sSeq (sSet 3 (mCall c_law_pick (mCons (mVar 0) (mCons (mLst (mCons (mC .none) (mCons (mC (.int 0)) (mCons (mC (.dict [])) (mCons (mDisp (mpCons (mC (.int 1)) (mC (.int 2)) mpNil)) (mCons (mTup mNil) (mCons (mVar 2) (mCons (mC (.str "lot")) (mCons (mTup (mCons (mTup (mCons (mC (.int 1)) (mCons (mC (.int 2)) mNil))) mNil)) mNil))))))))) mNil))))
  (sSeq (sSet 4 (mCall c_law_pick (mCons (mVar 0) (mCons (mLst (mCons (mC .none) (mCons (mC (.int 0)) (mCons (mTup mNil) (mCons (mTup (mCons (mTup (mCons (mC (.int 5)) (mCons (mC (.int 1)) mNil))) mNil)) (mCons (mVar 1) (mCons (mC (.str "store")) (mCons (mC (.dict [])) mNil)))))))) mNil))))
  (sSeq (sSet 5 (mCall c_law_pick (mCons (mVar 0) (mCons (mLst (mCons (mC .none) (mCons (mC (.int 0)) (mCons (mC (.str "")) (mCons (mC (.str "First")) (mCons (mC (.str "widest")) (mCons (mTup (mCons (mC (.str "first")) mNil)) (mCons (mLst (mCons (mC (.str "first")) mNil)) (mCons (mC (.dict [])) (mCons (mC (.bool true)) mNil)))))))))) mNil))))
  (sSeq (sSet 6 (mLst (mCons (mC .none) (mCons (mC (.int 0)) (mCons (mLst mNil) (mCons (mLst (mCons (mTup (mCons (mC (.int 1)) (mCons (mC (.int 1)) mNil))) mNil)) (mCons (mTup (mCons (mC (.int 1)) (mCons (mC (.int 1)) mNil))) (mCons (mTup (mCons (mTup (mCons (mC (.int 1)) mNil)) mNil)) (mCons (mTup (mCons (mTup (mCons (mC (.int 1)) (mCons (mC (.int 0)) mNil))) mNil)) (mCons (mTup (mCons (mTup (mCons (mC (.int 0)) (mCons (mC (.int 1)) mNil))) mNil)) (mCons (mTup (mCons (mTup (mCons (mC (.bool true)) (mCons (mC (.int 1)) mNil))) mNil)) (mCons (mTup (mCons (mTup (mCons (mC (.int 1)) (mCons (mC (.bool true)) mNil))) mNil)) (mCons (mTup (mCons (mTup (mCons (mC (.int 1)) (mCons (mC (.int 1)) mNil))) (mCons (mC .none) mNil))) (mCons (mC (.str "row")) (mCons (mC (.dict [])) mNil)))))))))))))))
  (sSeq (sSet 7 (mCall c_law_pick (mCons (mVar 0) (mCons (mBin fAdd (mVar 6) (mLst (mCons (mTup (mCons (mTup (mCons (mC (.int 1)) (mCons (mC (.int 1)) (mCons (mC (.int 1)) mNil)))) mNil)) (mCons (mTup (mCons (mLst (mCons (mC (.int 1)) (mCons (mC (.int 1)) mNil))) mNil)) (mCons (mTup (mCons (mTup (mCons (mC (.str "1")) (mCons (mC (.int 1)) mNil))) mNil)) (mCons (mTup (mCons (mTup (mCons (mC (.int 1)) (mCons (mNeg (mC (.int 1))) mNil))) mNil)) mNil)))))) mNil))))
  (sSeq (sSetM 8 (mLst (mCons (mThunk m_law_word (mCallK c_pack 2 1 (mCons (mVar 3) (mCons (mVar 4) mNil)) (mCons (mVar 5) mNil))) mNil)))
  (sSeq (sApp 8 (mThunk m_law_word (mCallK c_pack 2 1 (mCons (mVar 1) (mCons (mVar 4) mNil)) (mCons (mVar 5) mNil))))
  (sSeq (sApp 8 (mThunk m_law_word (mCallK c_pack 2 1 (mCons (mVar 1) (mCons (mVar 2) mNil)) (mCons (mVar 5) mNil))))
  (sSeq (sApp 8 (mThunk m_law_word (mCall c_is_greedy (mCons (mVar 3) (mCons (mVar 4) (mCons (mC .none) mNil))))))
  (sSeq (sApp 8 (mThunk m_law_word (mCall c_is_greedy (mCons (mVar 1) (mCons (mVar 4) (mCons (mC .none) mNil))))))
  (sSeq (sSet 9 (mLst (mCons (mC (.str "lot")) (mCons (mC (.str "store")) (mCons (mC (.str "operation")) (mCons (mC (.str "lot")) (mCons (mC (.str "store")) mNil)))))))
  (sSeq (sFor (mSeq (mTup (mCons (mC (.fn "pack_row")) (mCons (mC (.fn "is_taken")) mNil)))) (gN 10)
  (sSeq (sApp 8 (mThunk m_law_word (mCallFn 10 [("pack_row", c_pack_row), ("is_taken", c_is_taken)] (mCons (mVar 7) (mCons (mVar 4) mNil)))))
    (sSeq (sApp 8 (mThunk m_law_word (mCallFn 10 [("pack_row", c_pack_row), ("is_taken", c_is_taken)] (mCons (mTup (mCons (mTup (mCons (mC (.int 1)) (mCons (mC (.int 1)) mNil))) mNil)) (mCons (mVar 4) mNil)))))
    (sSet 9 (mBin fAdd (mVar 9) (mLst (mCons (mC (.str "operation")) (mCons (mC (.str "store")) mNil))))))))
  (sSeq (sApp 8 (mThunk m_law_word (mCall c_lot_of (mCons (mVar 7) mNil))))
  (sFrz 8 (sRet (mAnd (mCmp fEq (mVar 8) (mBin fAdd (mVar 9) (mLst (mCons (mC (.str "operation")) mNil)))) (mCmp fIsB (mCall c_is_row (mCons (mVar 7) mNil)) (mC (.bool false)))))))))))))))))))
def m_law_right : FM := mFun 3 11 b_law_right
theorem okFB_ok {d : D} (h : okFB d = true) : okF d := by
  unfold okFB at h
  rw [Bool.and_eq_true] at h
  refine ⟨.inl h.1, fun xs e x hx => ?_⟩
  subst e
  have h2 := List.all_eq_true.mp h.2 x hx
  rw [Bool.and_eq_true] at h2
  refine ⟨.inl h2.1, fun ys e y hy => ?_⟩
  subst e
  exact List.all_eq_true.mp h2.2 y hy
abbrev fineL : D := lotD [(1, 2), (6, 1)]
abbrev roomsS : D := storeD [(10, 2)]
def c_law_right : FM := fun ds Q _ => ds = [.dice, fineL, roomsS] ∧ Q (.bool true)
theorem c_law_right_ok : ∀ ds Q E, c_law_right ds Q E → m_law_right ds Q E := by
  rintro ds Q E ⟨rfl, q⟩
  unfold m_law_right b_law_right
  walk_at "dl"
  refine ⟨[(.inl 1, .int 2)], rfl, by decide, ?_⟩
  refine ⟨_, .inl rfl, by decide, by decide, fun a ha => ?_⟩
  have ha : okX owns sls a ∧ isCX "Lot" a = false := by
    simp only [List.mem_cons, List.not_mem_nil, or_false] at ha
    rcases ha with rfl | rfl | rfl | rfl | rfl | rfl | rfl | rfl
    · exact ⟨.inl (.inl rfl), rfl⟩
    · exact ⟨.inl (.inl rfl), rfl⟩
    · exact ⟨.inl (.inl rfl), rfl⟩
    · exact ⟨.inl (.inl rfl), rfl⟩
    · exact ⟨.inl (.inl rfl), rfl⟩
    · exact ⟨.inl (.inr ⟨_, _, rfl, by decide⟩), by decide⟩
    · exact ⟨.inl (.inl rfl), rfl⟩
    · exact ⟨.inl (.inl rfl), rfl⟩
  refine ⟨_, .inl rfl, by decide, by decide, fun b hb => ?_⟩
  have hb : okX owns sls b ∧ isCX "Store" b = false := by
    simp only [List.mem_cons, List.not_mem_nil, or_false] at hb
    rcases hb with rfl | rfl | rfl | rfl | rfl | rfl | rfl
    · exact ⟨.inl (.inl rfl), rfl⟩
    · exact ⟨.inl (.inl rfl), rfl⟩
    · exact ⟨.inl (.inl rfl), rfl⟩
    · exact ⟨.inl (.inl rfl), rfl⟩
    · exact ⟨.inl (.inr ⟨_, _, rfl, by decide⟩), by decide⟩
    · exact ⟨.inl (.inl rfl), rfl⟩
    · exact ⟨.inl (.inl rfl), rfl⟩
  refine ⟨_, .inl rfl, by decide, by decide, fun r hr => ?_⟩
  have hr : (r.tyn.isSome && !ruleB r) = true := all_of (p := fun r => r.tyn.isSome && !ruleB r) (by decide +kernel) r hr
  rw [Bool.and_eq_true, Bool.not_eq_true'] at hr
  refine ⟨_, .inl rfl, by decide, by decide, fun w hw => ?_⟩
  have hw : (okFB w && !rowOB w) = true := all_of (p := fun w => okFB w && !rowOB w) (by decide +kernel) w hw
  rw [Bool.and_eq_true, Bool.not_eq_true'] at hw
  obtain ⟨hw1, hw2⟩ := hw
  have hw1 := okFB_ok hw1
  have of : okX owns sls fineL := .inl (.inr ⟨_, _, rfl, by decide⟩)
  have os : okX owns sls roomsS := .inl (.inr ⟨_, _, rfl, by decide⟩)
  refine met_of ⟨a, b, r, rfl, ha.1, .inl ⟨ha.2, met_lot ?_⟩⟩
  refine met_of ⟨_, b, r, rfl, of, .inr ⟨rfl, hb.1, .inl ⟨hb.2, met_store ?_⟩⟩⟩
  refine ⟨by decide, ?_⟩
  refine met_of ⟨_, _, r, rfl, of, .inr ⟨rfl, os, .inr ⟨rfl, .inl hr.1, hr.2, met_oper ?_⟩⟩⟩
  refine ⟨by decide, ?_⟩
  refine met_of ⟨a, b, rfl, ha.1, .inl ⟨ha.2, met_lot ?_⟩⟩
  refine ⟨by decide, ?_⟩
  refine met_of ⟨_, b, rfl, of, .inr ⟨rfl, hb.1, hb.2, met_store ?_⟩⟩
  refine ⟨by decide, ?_⟩
  unfold forL
  walk_at "dl"
  refine met_of ⟨_, c_pack_row, rfl, by simp, .inl ⟨w, b, rfl, .inl ⟨hw1, hw2, met_oper ?_⟩⟩⟩
  refine ⟨by decide, ?_⟩
  refine met_of ⟨_, c_pack_row, rfl, by simp, .inl ⟨_, b, rfl, .inr ⟨rfl, hb.1, hb.2, met_store ?_⟩⟩⟩
  refine ⟨by decide, ?_⟩
  unfold forL
  walk_at "dl"
  refine met_of ⟨_, c_is_taken, rfl, by simp, ⟨w, b, rfl, .inl ⟨hw1, hw2, met_oper ?_⟩⟩⟩
  refine ⟨by decide, ?_⟩
  refine met_of ⟨_, c_is_taken, rfl, by simp, ⟨_, b, rfl, .inr ⟨rfl, hb.1, hb.2, met_store ?_⟩⟩⟩
  refine ⟨by decide, ?_⟩
  unfold forL
  walk_at "dl"
  refine met_of ⟨w, rfl, hw1, hw2, met_oper ?_⟩
  refine ⟨by decide, ?_⟩
  refine fEq_same (by decide +kernel) ?_
  rw [if_pos rfl]
  refine .inr ⟨w, rfl, hw1, hw2, ?_⟩
  walk_at "dl"
  exact q
/-- law -/
def b_law : SM :=
  (sSeq (sPar 1 2 (mCons (mMake "Lot" c_Lot_init (mCons (mDisp (mpCons (mC (.int 1)) (mC (.int 2)) (mpCons (mC (.int 6)) (mC (.int 1)) mpNil))) mNil)) (mCons (mMake "Store" c_Store_init (mCons (mTup (mCons (mC (.int 10)) (mCons (mC (.int 2)) mNil))) mNil)) mNil)))
  (sSeq (sFor (mRange1 (mCons (mB fMax2 (mCons (mC (.int 1)) (mCons (mB fMin2 (mCons (mC (.int 6)) (mCons (mB fLen (mCons (mVar 0) mNil)) mNil))) mNil))) mNil)) (gN 3)
  (sSeq (sSet 4 (mCall c_law_dice (mCons (mVar 0) (mCons (mVar 3) mNil))))
    (sFor (mRange1 (mCons (mC (.int 4)) mNil)) (gN 5)
    (sIf (mNotT (mTest (mCall c_law_right (mCons (mVar 4) (mCons (mVar 1) (mCons (mVar 2) mNil))))))
      (sRet (mC (.bool false)))
      sNext))))
  (sSeq (sPar 6 7 (mCons (mRepU (mTup (mCons (mTup (mCons (mC (.int 1)) (mCons (mC (.int 1)) mNil))) (mCons (mTup (mCons (mC (.int 2)) (mCons (mC (.int 1)) mNil))) mNil))) (mC (.int 100))) (mCons (mB fTuple (mCons (mComp [8] (mRange2 (mCons (mC (.int 1)) (mCons (mC (.int 13)) mNil))) (gN 8) mYes (mTup (mCons (mVar 8) (mCons (mC (.int 1)) mNil)))) mNil)) mNil)))
  (sSeq (sSet 9 (mLst (mCons (mCall c_is_row (mCons (mVar 6) mNil)) (mCons (mCall c_is_row (mCons (mBin fAdd (mVar 6) (mTup (mCons (mTup (mCons (mC (.int 1)) (mCons (mC (.int 1)) mNil))) mNil))) mNil)) (mCons (mCall c_is_row (mCons (mRepU (mVar 7) (mC (.int 2))) mNil)) (mCons (mCall c_is_row (mCons (mBin fAdd (mVar 7) (mTup (mCons (mTup (mCons (mC (.int 13)) (mCons (mC (.int 1)) mNil))) mNil))) mNil)) (mCons (mC (.int 200)) mNil)))))))
  (sRet (mAnd (mCmp fEq (mVar 9) (mLst (mCons (mC (.bool true)) (mCons (mC (.bool false)) (mCons (mC (.bool true)) (mCons (mC (.bool false)) (mCons (mC (.int 200)) mNil))))))) (mCmp fEq (mBin fIx (mCall c_pack_row (mCons (mTup mNil) (mCons (mVar 2) mNil))) (mC (.int 1))) (mC (.int 0)))))))))
def m_law : FM := mFun 1 10 b_law
def longT : Tab := (List.replicate 100 [((1 : Int), (1 : Int)), (2, 1)]).flatten
def wideT (n : Nat) : Tab := (List.range n).map fun (i : Nat) => (1 + (i : Int), 1)
theorem small_ok {T : Tab} (h : (T.all fun p => decide (1 ≤ p.1) && decide (p.1 ≤ 100) && (decide (1 ≤ p.2) && decide (p.2 ≤ 100))) = true) : ∀ p, p ∈ T → (1 ≤ p.1 ∧ p.1 < 10 ^ 200) ∧ 1 ≤ p.2 ∧ p.2 < 10 ^ 200 := fun p hp => by
  have h := List.all_eq_true.mp h p hp
  simp only [Bool.and_eq_true, decide_eq_true_eq] at h
  have big : (100 : Int) < 10 ^ 200 := by decide +kernel
  exact ⟨⟨h.1.1, Int.lt_of_le_of_lt h.1.2 big⟩, h.2.1, Int.lt_of_le_of_lt h.2.2 big⟩
theorem rows_at {T : Tab} {ds : List D} {Q : D → Prop} {E : Er → Prop} (e : ds = T.map pairD) (hl : T.length ≤ 1000) (h : (T.all fun p => decide (1 ≤ p.1) && decide (p.1 ≤ 100) && (decide (1 ≤ p.2) && decide (p.2 ≤ 100))) = true) (b : Bool) (hb : rowFew T = b) (q : Q (.bool b)) : c_is_row [.tup ds] Q E := by
  subst e hb
  exact .inl ⟨T, rfl, hl, small_ok h, q⟩
theorem law_true : LawTrue m_law := by
  intro ns hns
  unfold m_law b_law
  walk_at "dl"
  refine ⟨[(.inl 1, .int 2), (.inl 6, .int 1)], rfl, by decide, rfl, .inl (.inr ⟨[(1, 2), (6, 1)], rfl, ⟨by decide, by decide, small_ok (by decide)⟩, ?_⟩)⟩
  refine ⟨rfl, init_ok (M := [(10, 2)]) (by decide) (small_ok (by decide)) (by decide) ?_⟩
  refine ⟨rfl, ?_⟩
  rw [show sortT [((1 : Int), (2 : Int)), (6, 1)] = [(1, 2), (6, 1)] from by decide +kernel, show mergeT [((10 : Int), (2 : Int))] = [(10, 2)] from by decide +kernel]
  refine ⟨by split <;> omega, by split <;> (try split) <;> omega, ?_⟩
  refine forL_inv (fun _ δ => ∃ a b c, δ = [DV.v (.script ns), .v fineL, .v roomsS, a, b, c, .u, .u, .u, .u]) (fun i d δ N hd ⟨a, b, c, hδ⟩ hN => ?_) ⟨_, _, _, rfl⟩ fun δ ⟨a, b, c, hδ⟩ => ?_
  · subst hδ
    obtain ⟨k, hk, rfl⟩ := rangeD_mem (List.mem_of_getElem? hd)
    walk_at "dl"
    refine ⟨ns, k, rfl, ?_⟩
    walk_at "dl"
    refine forL_inv (fun _ δ => ∃ c, δ = [DV.v (.script ns), .v fineL, .v roomsS, .v (.int (k : Int)), .v .dice, c, .u, .u, .u, .u]) (fun i d δ N hd ⟨c, hδ⟩ hN2 => ?_) ⟨_, rfl⟩ fun δ ⟨c, hδ⟩ => ?_
    · subst hδ
      walk_at "dl"
      refine ⟨rfl, _, rfl, ?_⟩
      rw [if_neg (by decide)]
      exact hN2 _ ⟨_, rfl⟩
    · exact hN _ ⟨_, _, _, hδ⟩
  subst hδ
  walk_at "dl"
  refine ⟨_, _, rfl, rfl, by simp, by decide, by decide, by decide, by decide, ?_⟩
  rw [show (List.replicate (Int.toNat 100) [D.tup [.int 1, .int 1], D.tup [.int 2, .int 1]]).flatten = longT.map pairD from rfl]
  refine compL_map (fun d => pairD (iOf d, 1)) (fun d hd R S hR => ?_) ?_
  · obtain ⟨k, _, rfl⟩ := rangeD_mem hd
    walk_at "dl"
    exact hR
  rw [show [] ++ List.map (fun d => pairD (iOf d, 1)) (rangeD 1 (13 - 1 : Int).toNat) = (wideT 12).map pairD from rfl]
  walk_at "dl"
  refine rows_at (T := longT) rfl (by decide +kernel) (by decide +kernel) true (by decide +kernel) ?_
  refine ⟨by decide +kernel, ?_⟩
  refine rows_at (T := longT ++ oneT) (by rw [List.map_append] <;> rfl) (by decide +kernel) (by decide +kernel) false (by decide +kernel) ?_
  refine ⟨_, _, rfl, rfl, by decide, by decide, by decide, by decide, ?_⟩
  refine rows_at (T := wideT 12 ++ wideT 12) rfl (by decide +kernel) (by decide +kernel) true (by decide +kernel) ?_
  refine ⟨by decide +kernel, ?_⟩
  refine rows_at (T := wideT 12 ++ [(13, 1)]) rfl (by decide +kernel) (by decide +kernel) false (by decide +kernel) ?_
  refine fEq_same (by decide +kernel) ?_
  rw [if_pos rfl]
  refine .inr ⟨[(10, 2)], rfl, by decide, small_ok (by decide), ?_⟩
  walk_at "dl"
end DL.Law
set_option Elab.async false
set_option linter.all false
set_option maxRecDepth 100000
set_option maxHeartbeats 4000000
namespace DL.Law
open DL
open PySem PySem.Spec PyProof.Rows L2
variable [TabsC]
structure Txt (K : PySem.W.Frag) (mg : Str → Option Value) (base : Heap) where
  C_Packing : Addr
  n_Packing : PySem.W.nsIn K mainGlobals "Packing" = some (some (.ref C_Packing))
  g_Packing : mg "Packing" = some (.ref C_Packing)
  sc_Packing : SlX.SCls K C_Packing
  q_Packing : Addr
  st_Packing : SlX.Slot1 K C_Packing "own_runs" q_Packing 0
  C_Counted : Addr
  n_Counted : PySem.W.nsIn K mainGlobals "Counted" = some (some (.ref C_Counted))
  g_Counted : mg "Counted" = some (.ref C_Counted)
  cl_Counted : Cls K C_Counted
  ki_Counted : kitAll K C_Counted = true
  C_Filler : Addr
  n_Filler : PySem.W.nsIn K mainGlobals "Filler" = some (some (.ref C_Filler))
  g_Filler : mg "Filler" = some (.ref C_Filler)
  cl_Filler : Cls K C_Filler
  C_Lot : Addr
  n_Lot : PySem.W.nsIn K mainGlobals "Lot" = some (some (.ref C_Lot))
  g_Lot : mg "Lot" = some (.ref C_Lot)
  cl_Lot : Cls K C_Lot
  ki_Lot : kitAll K C_Lot = true
  C_Row : Addr
  n_Row : PySem.W.nsIn K mainGlobals "Row" = some (some (.ref C_Row))
  g_Row : mg "Row" = some (.ref C_Row)
  cl_Row : Cls K C_Row
  ki_Row : kitAll K C_Row = true
  C_Store : Addr
  n_Store : PySem.W.nsIn K mainGlobals "Store" = some (some (.ref C_Store))
  g_Store : mg "Store" = some (.ref C_Store)
  cl_Store : Cls K C_Store
  ki_Store : kitAll K C_Store = true
  kits : KitOwn K owns
  kback : BackOwn K owns
  ksl : KitSl K owns sls
  no_Counted_own_counts : NoAttr K C_Counted "own_counts"
  no_Filler_own_runs : NoAttr K C_Filler "own_runs"
  no_Lot_own_counts : NoAttr K C_Lot "own_counts"
  no_Row_own_runs : NoAttr K C_Row "own_runs"
  no_Store_own_runs : NoAttr K C_Store "own_runs"
  C_InvalidLot : Addr
  n_InvalidLot : PySem.W.nsIn K mainGlobals "InvalidLot" = some (some (.ref C_InvalidLot))
  g_InvalidLot : mg "InvalidLot" = some (.ref C_InvalidLot)
  xi_InvalidLot : PySem.W.excIn K C_InvalidLot [.type "ValueError", .type "Exception", .type "BaseException", .type "object"] "ValueError.__new__" = true
  kp_InvalidLot : PySem.W.keepIn K (.ref C_InvalidLot) = true
  sb_InvalidLot : PySem.W.subIn K (.ref C_InvalidLot) (.type "BaseException") = some true
  ty_InvalidLot : PySem.W.typeIn K (.ref C_InvalidLot) = some (.type "type")
  C_InvalidOperation : Addr
  n_InvalidOperation : PySem.W.nsIn K mainGlobals "InvalidOperation" = some (some (.ref C_InvalidOperation))
  g_InvalidOperation : mg "InvalidOperation" = some (.ref C_InvalidOperation)
  xi_InvalidOperation : PySem.W.excIn K C_InvalidOperation [.type "ValueError", .type "Exception", .type "BaseException", .type "object"] "ValueError.__new__" = true
  kp_InvalidOperation : PySem.W.keepIn K (.ref C_InvalidOperation) = true
  sb_InvalidOperation : PySem.W.subIn K (.ref C_InvalidOperation) (.type "BaseException") = some true
  ty_InvalidOperation : PySem.W.typeIn K (.ref C_InvalidOperation) = some (.type "type")
  C_InvalidPacking : Addr
  n_InvalidPacking : PySem.W.nsIn K mainGlobals "InvalidPacking" = some (some (.ref C_InvalidPacking))
  g_InvalidPacking : mg "InvalidPacking" = some (.ref C_InvalidPacking)
  xi_InvalidPacking : PySem.W.excIn K C_InvalidPacking [.type "ValueError", .type "Exception", .type "BaseException", .type "object"] "ValueError.__new__" = true
  kp_InvalidPacking : PySem.W.keepIn K (.ref C_InvalidPacking) = true
  sb_InvalidPacking : PySem.W.subIn K (.ref C_InvalidPacking) (.type "BaseException") = some true
  ty_InvalidPacking : PySem.W.typeIn K (.ref C_InvalidPacking) = some (.type "type")
  C_InvalidStore : Addr
  n_InvalidStore : PySem.W.nsIn K mainGlobals "InvalidStore" = some (some (.ref C_InvalidStore))
  g_InvalidStore : mg "InvalidStore" = some (.ref C_InvalidStore)
  xi_InvalidStore : PySem.W.excIn K C_InvalidStore [.type "ValueError", .type "Exception", .type "BaseException", .type "object"] "ValueError.__new__" = true
  kp_InvalidStore : PySem.W.keepIn K (.ref C_InvalidStore) = true
  sb_InvalidStore : PySem.W.subIn K (.ref C_InvalidStore) (.type "BaseException") = some true
  ty_InvalidStore : PySem.W.typeIn K (.ref C_InvalidStore) = some (.type "type")
  isa : HIsa K xnames xisa
  f_is_integer : Addr
  d_is_integer : FuncData
  F_is_integer : Fun K "is_integer" "is_integer" s_is_integer f_is_integer d_is_integer
  b_is_integer : Binds K d_is_integer ["value"] []
  m_is_integer : mg "is_integer" = some (.ref f_is_integer)
  k_is_integer : PySem.W.keepIn K (.ref f_is_integer) = true
  f_is_size : Addr
  d_is_size : FuncData
  F_is_size : Fun K "is_size" "is_size" s_is_size f_is_size d_is_size
  b_is_size : Binds K d_is_size ["value"] []
  m_is_size : mg "is_size" = some (.ref f_is_size)
  k_is_size : PySem.W.keepIn K (.ref f_is_size) = true
  f_is_table : Addr
  d_is_table : FuncData
  F_is_table : Fun K "is_table" "is_table" s_is_table f_is_table d_is_table
  b_is_table : Binds K d_is_table ["value"] []
  m_is_table : mg "is_table" = some (.ref f_is_table)
  k_is_table : PySem.W.keepIn K (.ref f_is_table) = true
  f_Lot_init : Addr
  d_Lot_init : FuncData
  F_Lot_init : FunD K "__init__" "Lot.__init__" (defArgs s_Lot_init) (defBody s_Lot_init) (defScope s_Lot_init) [.non] [] f_Lot_init d_Lot_init
  b0_Lot_init : ∃ ds, Vals [V.non] ds ∧ Binds K d_Lot_init ["self", "counts"] ds
  b1_Lot_init : ∃ ds, Vals [] ds ∧ Binds K d_Lot_init ["self", "counts"] ds
  mk_Lot : Mk K C_Lot f_Lot_init
  f_is_run_stores : Addr
  d_is_run_stores : FuncData
  F_is_run_stores : Fun K "is_run" "is_run" s_is_run_stores f_is_run_stores d_is_run_stores
  b_is_run_stores : Binds K d_is_run_stores ["value"] []
  m_is_run_stores : mg "is_run_stores" = some (.ref f_is_run_stores)
  k_is_run_stores : PySem.W.keepIn K (.ref f_is_run_stores) = true
  f_merged : Addr
  d_merged : FuncData
  F_merged : Fun K "merged" "merged" s_merged f_merged d_merged
  b_merged : Binds K d_merged ["runs"] []
  m_merged : mg "merged" = some (.ref f_merged)
  k_merged : PySem.W.keepIn K (.ref f_merged) = true
  f_Store_init : Addr
  d_Store_init : FuncData
  F_Store_init : Fun K "__init__" "Store.__init__" s_Store_init f_Store_init d_Store_init
  b_Store_init : ∀ us rest : List Value, us.length = (["self"] : List Str).length → bindArgs d_Store_init ⟨us ++ rest, []⟩ = (newTuple rest >>= fun t => pure ((["self"] : List Str).zip us ++ [(("runs" : Str), t)]))
  mk_Store : Mk K C_Store f_Store_init
  f_law_dice : Addr
  d_law_dice : FuncData
  F_law_dice : Fun K "_law_dice" "_law_dice" s_law_dice f_law_dice d_law_dice
  b_law_dice : Binds K d_law_dice ["script", "spot"] []
  m_law_dice : mg "_law_dice" = some (.ref f_law_dice)
  k_law_dice : PySem.W.keepIn K (.ref f_law_dice) = true
  f_require_lot : Addr
  d_require_lot : FuncData
  F_require_lot : Fun K "require_lot" "require_lot" s_require_lot f_require_lot d_require_lot
  b_require_lot : Binds K d_require_lot ["lot"] []
  m_require_lot : mg "require_lot" = some (.ref f_require_lot)
  k_require_lot : PySem.W.keepIn K (.ref f_require_lot) = true
  f_require_store : Addr
  d_require_store : FuncData
  F_require_store : Fun K "require_store" "require_store" s_require_store f_require_store d_require_store
  b_require_store : Binds K d_require_store ["store"] []
  m_require_store : mg "require_store" = some (.ref f_require_store)
  k_require_store : PySem.W.keepIn K (.ref f_require_store) = true
  f_is_greedy : Addr
  d_is_greedy : FuncData
  F_is_greedy : Fun K "is_greedy" "is_greedy" s_is_greedy f_is_greedy d_is_greedy
  b_is_greedy : Binds K d_is_greedy ["lot", "store", "value"] []
  m_is_greedy : mg "is_greedy" = some (.ref f_is_greedy)
  k_is_greedy : PySem.W.keepIn K (.ref f_is_greedy) = true
  f_Store_runs : Addr
  d_Store_runs : FuncData
  F_Store_runs : Fun K "runs" "Store.runs" s_Store_runs f_Store_runs d_Store_runs
  b_Store_runs : Binds K d_Store_runs ["self"] []
  p_Store_runs : Addr
  pr_Store_runs : PropOf K C_Store "runs" p_Store_runs f_Store_runs
  f_Filler_init : Addr
  d_Filler_init : FuncData
  F_Filler_init : Fun K "__init__" "Filler.__init__" s_Filler_init f_Filler_init d_Filler_init
  b_Filler_init : Binds K d_Filler_init ["self", "store"] []
  mk_Filler : Mk K C_Filler f_Filler_init
  f_is_filling : Addr
  d_is_filling : FuncData
  F_is_filling : Fun K "is_filling" "is_filling" s_is_filling f_is_filling d_is_filling
  b_is_filling : Binds K d_is_filling ["value"] []
  m_is_filling : mg "is_filling" = some (.ref f_is_filling)
  k_is_filling : PySem.W.keepIn K (.ref f_is_filling) = true
  f_load_in : Addr
  d_load_in : FuncData
  F_load_in : Fun K "load_in" "load_in" s_load_in f_load_in d_load_in
  b_load_in : Binds K d_load_in ["filling"] []
  m_load_in : mg "load_in" = some (.ref f_load_in)
  k_load_in : PySem.W.keepIn K (.ref f_load_in) = true
  f_is_run : Addr
  d_is_run : FuncData
  F_is_run : Fun K "is_run" "is_run" s_is_run f_is_run d_is_run
  b_is_run : Binds K d_is_run ["value"] []
  m_is_run : mg "is_run" = some (.ref f_is_run)
  k_is_run : PySem.W.keepIn K (.ref f_is_run) = true
  f_joined_runs : Addr
  d_joined_runs : FuncData
  F_joined_runs : Fun K "joined_runs" "joined_runs" s_joined_runs f_joined_runs d_joined_runs
  b_joined_runs : Binds K d_joined_runs ["runs"] []
  m_joined_runs : mg "joined_runs" = some (.ref f_joined_runs)
  k_joined_runs : PySem.W.keepIn K (.ref f_joined_runs) = true
  f_rooms_in : Addr
  d_rooms_in : FuncData
  F_rooms_in : Fun K "rooms_in" "rooms_in" s_rooms_in f_rooms_in d_rooms_in
  b_rooms_in : Binds K d_rooms_in ["runs"] []
  m_rooms_in : mg "rooms_in" = some (.ref f_rooms_in)
  k_rooms_in : PySem.W.keepIn K (.ref f_rooms_in) = true
  f_sizes_in : Addr
  d_sizes_in : FuncData
  F_sizes_in : Fun K "sizes_in" "sizes_in" s_sizes_in f_sizes_in d_sizes_in
  b_sizes_in : Binds K d_sizes_in ["runs"] []
  m_sizes_in : mg "sizes_in" = some (.ref f_sizes_in)
  k_sizes_in : PySem.W.keepIn K (.ref f_sizes_in) = true
  f_Packing_init : Addr
  d_Packing_init : FuncData
  F_Packing_init : Fun K "__init__" "Packing.__init__" s_Packing_init f_Packing_init d_Packing_init
  b_Packing_init : ∀ us rest : List Value, us.length = (["self"] : List Str).length → bindArgs d_Packing_init ⟨us ++ rest, []⟩ = (newTuple rest >>= fun t => pure ((["self"] : List Str).zip us ++ [(("runs" : Str), t)]))
  mk_Packing : Mk K C_Packing f_Packing_init
  f_Filler_packing : Addr
  d_Filler_packing : FuncData
  F_Filler_packing : Fun K "packing" "Filler.packing" s_Filler_packing f_Filler_packing d_Filler_packing
  b_Filler_packing : Binds K d_Filler_packing ["self"] []
  me_Filler_packing : Meth K C_Filler "packing" f_Filler_packing
  f_Filler_order : Addr
  d_Filler_order : FuncData
  F_Filler_order : Fun K "order" "Filler.order" s_Filler_order f_Filler_order d_Filler_order
  b_Filler_order : Binds K d_Filler_order ["self", "size", "rule"] []
  me_Filler_order : Meth K C_Filler "order" f_Filler_order
  f_with_more : Addr
  d_with_more : FuncData
  F_with_more : Fun K "with_more" "with_more" s_with_more f_with_more d_with_more
  b_with_more : Binds K d_with_more ["filling", "size", "many"] []
  m_with_more : mg "with_more" = some (.ref f_with_more)
  k_with_more : PySem.W.keepIn K (.ref f_with_more) = true
  f_filled : Addr
  d_filled : FuncData
  F_filled : Fun K "filled" "filled" s_filled f_filled d_filled
  b_filled : Binds K d_filled ["run", "size", "each"] []
  m_filled : mg "filled" = some (.ref f_filled)
  k_filled : PySem.W.keepIn K (.ref f_filled) = true
  f_Filler_put_in : Addr
  d_Filler_put_in : FuncData
  F_Filler_put_in : Fun K "put_in" "Filler.put_in" s_Filler_put_in f_Filler_put_in d_Filler_put_in
  b_Filler_put_in : Binds K d_Filler_put_in ["self", "at", "size", "many", "rule"] []
  me_Filler_put_in : Meth K C_Filler "put_in" f_Filler_put_in
  f_Filler_put : Addr
  d_Filler_put : FuncData
  F_Filler_put : Fun K "put" "Filler.put" s_Filler_put f_Filler_put d_Filler_put
  b_Filler_put : Binds K d_Filler_put ["self", "size", "many", "rule"] []
  me_Filler_put : Meth K C_Filler "put" f_Filler_put
  f_is_row : Addr
  d_is_row : FuncData
  F_is_row : Fun K "is_row" "is_row" s_is_row f_is_row d_is_row
  b_is_row : Binds K d_is_row ["value"] []
  m_is_row : mg "is_row" = some (.ref f_is_row)
  k_is_row : PySem.W.keepIn K (.ref f_is_row) = true
  f_require_row : Addr
  d_require_row : FuncData
  F_require_row : Fun K "require_row" "require_row" s_require_row f_require_row d_require_row
  b_require_row : Binds K d_require_row ["row"] []
  m_require_row : mg "require_row" = some (.ref f_require_row)
  k_require_row : PySem.W.keepIn K (.ref f_require_row) = true
  f_pack_row : Addr
  d_pack_row : FuncData
  F_pack_row : Fun K "pack_row" "pack_row" s_pack_row f_pack_row d_pack_row
  b_pack_row : Binds K d_pack_row ["row", "store"] []
  m_pack_row : mg "pack_row" = some (.ref f_pack_row)
  k_pack_row : PySem.W.keepIn K (.ref f_pack_row) = true
  nn_pack_row : PySem.W.nsIn K mainGlobals "pack_row" = some (some (.ref f_pack_row))
  f_is_taken : Addr
  d_is_taken : FuncData
  F_is_taken : Fun K "is_taken" "is_taken" s_is_taken f_is_taken d_is_taken
  b_is_taken : Binds K d_is_taken ["row", "store"] []
  m_is_taken : mg "is_taken" = some (.ref f_is_taken)
  k_is_taken : PySem.W.keepIn K (.ref f_is_taken) = true
  nn_is_taken : PySem.W.nsIn K mainGlobals "is_taken" = some (some (.ref f_is_taken))
  f_lot_of : Addr
  d_lot_of : FuncData
  F_lot_of : Fun K "lot_of" "lot_of" s_lot_of f_lot_of d_lot_of
  b_lot_of : Binds K d_lot_of ["row"] []
  m_lot_of : mg "lot_of" = some (.ref f_lot_of)
  k_lot_of : PySem.W.keepIn K (.ref f_lot_of) = true
  f_Lot_counts : Addr
  d_Lot_counts : FuncData
  F_Lot_counts : Fun K "counts" "Lot.counts" s_Lot_counts f_Lot_counts d_Lot_counts
  b_Lot_counts : Binds K d_Lot_counts ["self"] []
  p_Lot_counts : Addr
  pr_Lot_counts : PropOf K C_Lot "counts" p_Lot_counts f_Lot_counts
  f_is_rule : Addr
  d_is_rule : FuncData
  F_is_rule : Fun K "is_rule" "is_rule" s_is_rule f_is_rule d_is_rule
  b_is_rule : Binds K d_is_rule ["value"] []
  m_is_rule : mg "is_rule" = some (.ref f_is_rule)
  k_is_rule : PySem.W.keepIn K (.ref f_is_rule) = true
  f_pack : Addr
  d_pack : FuncData
  F_pack : Fun K "pack" "pack" s_pack f_pack d_pack
  b_pack : ∀ (s : Shared) (us ws : List Value), us.length = 2 → ws.length = (["rule"] : List Str).length → BindsTo s d_pack ⟨us, (["rule"] : List Str).zip ws⟩ ((["lot", "store", "rule"] : List Str).zip (us ++ ws))
  m_pack : mg "pack" = some (.ref f_pack)
  k_pack : PySem.W.keepIn K (.ref f_pack) = true
  f_law_roll : Addr
  d_law_roll : FuncData
  F_law_roll : Fun K "_law_roll" "_law_roll" s_law_roll f_law_roll d_law_roll
  b_law_roll : Binds K d_law_roll ["dice", "total"] []
  m_law_roll : mg "_law_roll" = some (.ref f_law_roll)
  k_law_roll : PySem.W.keepIn K (.ref f_law_roll) = true
  f_law_pick : Addr
  d_law_pick : FuncData
  F_law_pick : Fun K "_law_pick" "_law_pick" s_law_pick f_law_pick d_law_pick
  b_law_pick : Binds K d_law_pick ["dice", "items"] []
  m_law_pick : mg "_law_pick" = some (.ref f_law_pick)
  k_law_pick : PySem.W.keepIn K (.ref f_law_pick) = true
  f_law_word : Addr
  d_law_word : FuncData
  F_law_word : Fun K "_law_word" "_law_word" s_law_word f_law_word d_law_word
  b_law_word : Binds K d_law_word ["call"] []
  m_law_word : mg "_law_word" = some (.ref f_law_word)
  k_law_word : PySem.W.keepIn K (.ref f_law_word) = true
  f_law_right : Addr
  d_law_right : FuncData
  F_law_right : Fun K "_law_right" "_law_right" s_law_right f_law_right d_law_right
  b_law_right : Binds K d_law_right ["dice", "fine", "rooms"] []
  m_law_right : mg "_law_right" = some (.ref f_law_right)
  k_law_right : PySem.W.keepIn K (.ref f_law_right) = true
  c_law_right : Addr
  P_law_right : Addr
  tb_law_right : LamX.TabB base mg c_law_right P_law_right
  tm_law_right : (P_law_right, ("_law_right.<locals>.<lambda>" : Str)) ∈ TabsC.T
  tu_law_right : ∀ p ∈ TabsC.T, p.1 = P_law_right → p.2 = ("_law_right.<locals>.<lambda>" : Str)
  f_law : Addr
  d_law : FuncData
  F_law : Fun K "law" "law" s_law f_law d_law
  b_law : Binds K d_law ["script"] []
  m_law : mg "law" = some (.ref f_law)
  k_law : PySem.W.keepIn K (.ref f_law) = true
  ml_is_run_packings : mg "is_run_packings" = some (.ref f_is_run)
  ml_lot_of_rules : mg "lot_of_rules" = some (.ref f_lot_of)
  cd_law_right : d_law_right.code = .ref c_law_right
  z_abs : mg "abs" = none
  z_all : mg "all" = none
  z_bool : mg "bool" = none
  z_dict : mg "dict" = none
  z_enumerate : mg "enumerate" = none
  z_int : mg "int" = none
  z_isinstance : mg "isinstance" = none
  z_len : mg "len" = none
  z_list : mg "list" = none
  z_max : mg "max" = none
  z_min : mg "min" = none
  z_range : mg "range" = none
  z_sorted : mg "sorted" = none
  z_str : mg "str" = none
  z_sum : mg "sum" = none
  z_tuple : mg "tuple" = none
  z_zip : mg "zip" = none
  t_FIRST : Tok
  g_FIRST : mg "FIRST" = some (.str "first" t_FIRST)
  t_LAST : Tok
  g_LAST : mg "LAST" = some (.str "last" t_LAST)
  t_LIMIT : Tok
  g_LIMIT : mg "LIMIT" = some (.int 100000000000000000000000000000000000000000000000000000000000000000000000000000000000000000000000000000000000000000000000000000000000000000000000000000000000000000000000000000000000000000000000000000000 t_LIMIT)
  t_MAX_ROW : Tok
  g_MAX_ROW : mg "MAX_ROW" = some (.int 200 t_MAX_ROW)
  t_MAX_RUNS_packings : Tok
  g_MAX_RUNS_packings : mg "MAX_RUNS_packings" = some (.int 2000 t_MAX_RUNS_packings)
  t_MAX_RUNS_stores : Tok
  g_MAX_RUNS_stores : mg "MAX_RUNS_stores" = some (.int 40 t_MAX_RUNS_stores)
  t_MAX_SIZES_lots : Tok
  g_MAX_SIZES_lots : mg "MAX_SIZES_lots" = some (.int 12 t_MAX_SIZES_lots)
  t_MAX_SIZES_packings : Tok
  g_MAX_SIZES_packings : mg "MAX_SIZES_packings" = some (.int 12 t_MAX_SIZES_packings)
  t_MAX_SIZES_rules : Tok
  g_MAX_SIZES_rules : mg "MAX_SIZES_rules" = some (.int 12 t_MAX_SIZES_rules)
  t_MAX_STORE : Tok
  g_MAX_STORE : mg "MAX_STORE" = some (.int 40 t_MAX_STORE)
  a_RULES : Addr
  g_RULES : mg "RULES" = some (.ref a_RULES)
  tk_RULES : CT K a_RULES ["first", "last", "tightest"]
  t_TIGHTEST : Tok
  g_TIGHTEST : mg "TIGHTEST" = some (.str "tightest" t_TIGHTEST)
section
variable {P : Program} {w : World} {K : PySem.W.Frag} {mg : Str → Option Value} {base : Heap}
abbrev N_is_integer : List Str := ["value"]
theorem ok_is_integer (T : Txt K mg base) : FnD P w K mg base 1 T.f_is_integer c_is_integer := by
  have sc : FnScope N_is_integer ["value"] (defScope s_is_integer) := ⟨rfl, rfl, rfl, by decide +kernel, rfl, by decide +kernel, by decide +kernel⟩
  have hN := sc.nd
  refine FnD.imp (fnD_of (m := b_is_integer) T.F_is_integer sc T.b_is_integer fun cdv A outer s H E hG hr => ?_) c_is_integer_ok
  exact (dss_one (ds_ret (de_and (de_isiT T.kits T.kback (by decide) rfl T.z_isinstance (de_var 0 (pv 0)) rfl T.z_int bt_int) (de_and (de_not (de_isiT T.kits T.kback (by decide) rfl T.z_isinstance (de_var 0 (pv 0)) rfl T.z_bool bt_bool)) (de_one (de_chain op_ltD link_lt op_ltD link_lt (de_neg (de_const (v := V.int 100000000000000000000000000000000000000000000000000000000000000000000000000000000000000000000000000000000000000000000000000000000000000000000000000000000000000000000000000000000000000000000000000000000) (pe_glob rfl T.g_LIMIT ⟨_, rfl⟩) fun _ => .int _)) (de_var 0 (pv 0)) (de_const (v := V.int 100000000000000000000000000000000000000000000000000000000000000000000000000000000000000000000000000000000000000000000000000000000000000000000000000000000000000000000000000000000000000000000000000000000) (pe_glob rfl T.g_LIMIT ⟨_, rfl⟩) fun _ => .int _)))))))
abbrev N_is_size : List Str := ["value"]
theorem ok_is_size (T : Txt K mg base) : FnD P w K mg base 2 T.f_is_size c_is_size := by
  have sc : FnScope N_is_size ["value"] (defScope s_is_size) := ⟨rfl, rfl, rfl, by decide +kernel, rfl, by decide +kernel, by decide +kernel⟩
  have hN := sc.nd
  refine FnD.imp (fnD_of (m := b_is_size) T.F_is_size sc T.b_is_size fun cdv A outer s H E hG hr => ?_) c_is_size_ok
  exact (dss_one (ds_ret (de_and (de_call (ok_is_integer T) hG (hr.mono (by decide)) (takes_of rfl rfl rfl rfl) rfl T.m_is_integer T.k_is_integer (da_cons (de_var 0 (pv 0)) da_nil)) (de_one (de_cmp op_geD link_ge (nomark _) (de_var 0 (pv 0)) de_int)))))
abbrev N_is_table : List Str := ["value", "size", "count"]
theorem ok_is_table (T : Txt K mg base) : FnD P w K mg base 3 T.f_is_table c_is_table := by
  have sc : FnScope N_is_table ["value"] (defScope s_is_table) := ⟨rfl, rfl, rfl, by decide +kernel, rfl, by decide +kernel, by decide +kernel⟩
  have hN := sc.nd
  refine FnD.imp (fnD_of (m := b_is_table) T.F_is_table sc T.b_is_table fun cdv A outer s H E hG hr => ?_) c_is_table_ok
  exact (dss_one (ds_ret (de_and (de_isiT T.kits T.kback (by decide) rfl T.z_isinstance (de_var 0 (pv 0)) rfl T.z_dict bt_dict) (de_one (de_callB (cr_all rfl) link_all rfl T.z_all bt_all (da_cons (DE.up (DF.de (ba := false) (df_comp (own := [("size", 1), ("count", 2)]) rfl hN (di_items (ba := true) (de_var 0 (pv 0))) (blkOk_by (N := N_is_table) (sc := defScope s_is_table) (by decide +kernel)) (fun _ _ _ _ _ => (dgw_tup rfl (dgws_cons (dgw_name 1 (pg_name hN rfl (by first | exact .inl rfl | exact .inr rfl))) (dgws_cons (dgw_name 2 (pg_name hN rfl (by first | exact .inl rfl | exact .inr rfl))) dgws_nil)))) (fun _ _ _ _ _ => dts_nil) (fun _ _ _ _ _ => (de_and (de_call (ok_is_size T) hG (hr.mono (by decide)) takes0 rfl T.m_is_size T.k_is_size (da_cons (de_var 1 (pv 1)) da_nil)) (de_one (de_call (ok_is_size T) hG (hr.mono (by decide)) takes0 rfl T.m_is_size T.k_is_size (da_cons (de_var 2 (pv 2)) da_nil)))))))) da_nil))))))
abbrev N_Lot_init : List Str := ["self", "counts", "told", "size"]
theorem ok_Lot_init (T : Txt K mg base) : FnM P w K mg base 4 T.f_Lot_init c_Lot_init := by
  have sc : FnScope N_Lot_init ["self", "counts"] (defScope s_Lot_init) := ⟨rfl, rfl, rfl, by decide +kernel, rfl, by decide +kernel, by decide +kernel⟩
  have hN := sc.nd
  refine FnM.imp (fnM_dft (m := b_Lot_init) T.F_Lot_init sc T.b0_Lot_init T.b1_Lot_init (fun _ => .non) (by simp) fun cdv A outer s H E hG hr => ?_) c_Lot_init_ok
  exact (dss_one (ds_if (dt_val (de_isiC T.n_Counted T.g_Counted rfl (by decide) T.ki_Counted T.kits (by decide) rfl T.z_isinstance (de_var 1 (pv 1))))
  (dss_one (ds_fld 0 T.n_Lot T.cl_Lot T.no_Lot_own_counts (pv 0) (de_fld T.n_Counted T.cl_Counted T.no_Counted_own_counts (de_var 1 (pv 1)))))
  (dss_cons (ds_set 2 hN (de_if (dt_cmp op_isN link_is (nomark _) (de_var 1 (pv 1)) de_none) (DF.de (ba := false) df_dnew) (de_var 1 (pv 1))))
    (dss_cons (ds_if (dt_w (dw_or (dt_not (dt_val (de_call (ok_is_table T) hG (hr.mono (by decide)) (takes_of rfl rfl rfl rfl) rfl T.m_is_table T.k_is_table (da_cons (de_var 2 (pv 2)) da_nil)))) (dw_or1 (dt_cmp op_gtD link_gt (nomark _) (de_callB call_lenY link_lenY rfl T.z_len bt_len (da_cons (DE.up (de_var 2 (pv 2))) da_nil)) (de_const (v := V.int 12) (pe_glob rfl T.g_MAX_SIZES_lots ⟨_, rfl⟩) fun _ => .int _)))))
    (dss_one (ds_raise0 PySem.F.excBase_ValueError T.xi_InvalidLot T.n_InvalidLot T.g_InvalidLot T.kp_InvalidLot T.sb_InvalidLot T.ty_InvalidLot rfl (takes_of rfl rfl rfl rfl) rfl))
    dss_nil)
    (dss_one (ds_fld 0 T.n_Lot T.cl_Lot T.no_Lot_own_counts (pv 0) (DF.de (ba := false) (df_compD (own := [("size", 3)]) rfl hN (di_seq (ba := true) (DE.up (DF.de (ba := false) (df_callB (call_sortedDI rfl) link_sortK rfl T.z_sorted bt_sorted (da_cons (DE.up (de_var 2 (pv 2))) da_nil))))) (blkOk_by (N := N_Lot_init) (sc := defScope s_Lot_init) (by decide +kernel)) (fun _ _ _ _ _ => (dgw_name 3 (pg_name hN rfl (by first | exact .inl rfl | exact .inr rfl)))) (fun _ _ _ _ _ => dts_nil) (fun _ _ _ _ _ => (de_var 3 (pv 3))) (fun _ _ _ _ _ => (de_dget (Nat.lt_of_le_of_lt (Nat.add_le_add_left (by decide : 1 ≤ 65) _) (units65 hr)) (de_var 2 (pv 2)) (de_var 3 (pv 3)) (fun _ _ => rfl)))))))))))
abbrev N_is_run_stores : List Str := ["value"]
theorem ok_is_run_stores (T : Txt K mg base) : FnD P w K mg base 3 T.f_is_run_stores c_is_run_stores := by
  have sc : FnScope N_is_run_stores ["value"] (defScope s_is_run_stores) := ⟨rfl, rfl, rfl, by decide +kernel, rfl, by decide +kernel, by decide +kernel⟩
  have hN := sc.nd
  refine FnD.imp (fnD_of (m := b_is_run_stores) T.F_is_run_stores sc T.b_is_run_stores fun cdv A outer s H E hG hr => ?_) c_is_run_stores_ok
  exact (dss_one (ds_ret (de_and (de_isiT T.kits T.kback (by decide) rfl T.z_isinstance (de_var 0 (pv 0)) rfl T.z_tuple bt_tuple) (de_and (de_cmp (op_eqD hr.units) link_eq (nomark _) (de_callB call_len link_len rfl T.z_len bt_len (da_cons (DE.up (de_var 0 (pv 0))) da_nil)) de_int) (de_and (de_call (ok_is_size T) hG (hr.mono (by decide)) (takes_of rfl rfl rfl rfl) rfl T.m_is_size T.k_is_size (da_cons (de_ix (fun _ _ => rfl) (de_var 0 (pv 0)) de_int) da_nil)) (de_one (de_call (ok_is_size T) hG (hr.mono (by decide)) (takes_of rfl rfl rfl rfl) rfl T.m_is_size T.k_is_size (da_cons (de_ix (fun _ _ => rfl) (de_var 0 (pv 0)) de_int) da_nil))))))))
abbrev N_merged : List Str := ["runs", "found", "room", "many"]
theorem ok_merged (T : Txt K mg base) : FnD P w K mg base 1 T.f_merged c_merged := by
  have sc : FnScope N_merged ["runs"] (defScope s_merged) := ⟨rfl, rfl, rfl, by decide +kernel, rfl, by decide +kernel, by decide +kernel⟩
  have hN := sc.nd
  refine FnD.imp (fnD_of (m := b_merged) T.F_merged sc T.b_merged fun cdv A outer s H E hG hr => ?_) c_merged_ok
  exact (dss_cons (ds_setm 1 hN (df_lst da_nil))
  (dss_cons (ds_for (passes_of rfl) rfl (di_seq (ba := false) (de_var 0 (pv 0))) (dg_tup rfl (dgs_cons (dg_name 2 (pg_name hN rfl (by first | exact .inl rfl | exact .inr rfl))) (dgs_cons (dg_name 3 (pg_name hN rfl (by first | exact .inl rfl | exact .inr rfl))) dgs_nil)))
  (dss_one (ds_if (dt_w (dw_and (dt_cmp (op_neD hr.units) link_ne (nomark _) (de_mut 1 (pv 1)) (DF.de (ba := false) (df_lst da_nil))) (dw_and1 (dt_cmp (op_eqD hr.units) link_eq (nomark _) (de_ix (fun _ _ => rfl) (de_ix (fun _ _ => rfl) (de_mut 1 (pv 1)) (de_neg de_int)) de_int) (de_var 2 (pv 2))))))
    (dss_one (ds_putL 1 (pv 1) (de_neg de_int) (de_tup (da_cons (de_var 2 (pv 2)) (da_cons (de_add (de_ix (fun _ _ => rfl) (de_ix (fun _ _ => rfl) (de_mut 1 (pv 1)) (de_neg de_int)) de_int) (de_var 3 (pv 3))) da_nil)))))
    (dss_one (ds_app 1 (pv 1) (de_tup (da_cons (de_var 2 (pv 2)) (da_cons (de_var 3 (pv 3)) da_nil))))))))
  (dss_frz 1 (dss_one (ds_ret (de_var 1 (pv 1)))))))
abbrev N_Store_init : List Str := ["self", "runs", "run", "found"]
theorem ok_Store_init (T : Txt K mg base) : FnM P w K mg base 4 T.f_Store_init c_Store_init := by
  have sc : FnScope N_Store_init ((["self"] : List Str) ++ [("runs" : Str)]) (defScope s_Store_init) := ⟨rfl, rfl, rfl, by decide +kernel, rfl, by decide +kernel, by decide +kernel⟩
  have hN := sc.nd
  refine FnM.imp (fnM_star (m := b_Store_init) T.F_Store_init sc T.b_Store_init (by simp) fun cdv A outer s H E hG hr => ?_) c_Store_init_ok
  exact (dss_one (ds_if (dt_w (dw_and (dt_cmp (op_eqD hr.units) link_eq (nomark _) (de_callB call_len link_len rfl T.z_len bt_len (da_cons (DE.up (de_var 1 (pv 1))) da_nil)) de_int) (dw_and1 (dt_val (de_isiC T.n_Row T.g_Row rfl (by decide) T.ki_Row T.kits (by decide) rfl T.z_isinstance (de_ix (fun _ _ => rfl) (de_var 1 (pv 1)) de_int))))))
  (dss_one (ds_fld 0 T.n_Store T.cl_Store T.no_Store_own_runs (pv 0) (de_fld T.n_Row T.cl_Row T.no_Row_own_runs (de_ix (fun _ _ => rfl) (de_var 1 (pv 1)) de_int))))
  (dss_cons (ds_if (dt_not (dt_val (de_callB (cr_all rfl) link_all rfl T.z_all bt_all (da_cons (DE.up (DF.de (ba := false) (df_comp (own := [("run", 2)]) rfl hN (di_seq (ba := true) (DE.up (de_var 1 (pv 1)))) (blkOk_by (N := N_Store_init) (sc := defScope s_Store_init) (by decide +kernel)) (fun _ _ _ _ _ => (dgw_name 2 (pg_name hN rfl (by first | exact .inl rfl | exact .inr rfl)))) (fun _ _ _ _ _ => dts_nil) (fun _ _ _ _ _ => (de_call (ok_is_run_stores T) hG (hr.mono (by decide)) takes0 rfl T.m_is_run_stores T.k_is_run_stores (da_cons (de_var 2 (pv 2)) da_nil)))))) da_nil))))
    (dss_one (ds_raise0 PySem.F.excBase_ValueError T.xi_InvalidStore T.n_InvalidStore T.g_InvalidStore T.kp_InvalidStore T.sb_InvalidStore T.ty_InvalidStore rfl (takes_of rfl rfl rfl rfl) rfl))
    dss_nil)
    (dss_cons (ds_set 3 hN (de_call (ok_merged T) hG (hr.mono (by decide)) (takes_of rfl rfl rfl rfl) rfl T.m_merged T.k_merged (da_cons (de_var 1 (pv 1)) da_nil)))
    (dss_cons (ds_if (dt_cmp op_gtD link_gt (nomark _) (de_callB call_len link_len rfl T.z_len bt_len (da_cons (DE.up (de_var 3 (pv 3))) da_nil)) (de_const (v := V.int 40) (pe_glob rfl T.g_MAX_RUNS_stores ⟨_, rfl⟩) fun _ => .int _))
    (dss_one (ds_raise0 PySem.F.excBase_ValueError T.xi_InvalidStore T.n_InvalidStore T.g_InvalidStore T.kp_InvalidStore T.sb_InvalidStore T.ty_InvalidStore rfl (takes_of rfl rfl rfl rfl) rfl))
    dss_nil)
    (dss_one (ds_fld 0 T.n_Store T.cl_Store T.no_Store_own_runs (pv 0) (de_callT call_tuple_of link_tuple rfl T.z_tuple bt_tuple (da_cons (DE.up (de_var 3 (pv 3))) da_nil)))))))))
abbrev N_law_dice : List Str := ["script", "spot", "cell", "left"]
theorem ok_law_dice (T : Txt K mg base) : FnD P w K mg base 1 T.f_law_dice c_law_dice := by
  have sc : FnScope N_law_dice ["script", "spot"] (defScope s_law_dice) := ⟨rfl, rfl, rfl, by decide +kernel, rfl, by decide +kernel, by decide +kernel⟩
  have hN := sc.nd
  refine FnD.imp (fnD_of (m := b_law_dice) T.F_law_dice sc T.b_law_dice fun cdv A outer s H E hG hr => ?_) c_law_dice_ok
  exact (dss_cons (ds_set 2 hN (de_if (dt_cmp op_ltD link_lt (nomark _) (de_var 1 (pv 1)) (de_callB call_len link_len rfl T.z_len bt_len (da_cons (DE.up (de_var 0 (pv 0))) da_nil))) (de_callT call_int1 link_int rfl T.z_int bt_int (da_cons (DE.up (de_ix (fun _ _ => rfl) (de_var 0 (pv 0)) (de_var 1 (pv 1)))) da_nil)) (de_add (de_mul de_int (de_var 1 (pv 1))) de_int)))
  (dss_cons (ds_set 3 hN (de_mod (de_callB (call_max2 rfl) link_max2 rfl T.z_max bt_max (da_cons (DE.up de_int) (da_cons (DE.up (de_sub (de_callB call_abs link_abs rfl T.z_abs bt_abs (da_cons (DE.up (de_var 2 (pv 2))) da_nil)) (de_pow de_int de_int))) da_nil))) (de_mul (de_pow de_int de_int) (de_pow de_int de_int))))
  (dss_one (ds_ret (de_dice (df_lst (da_cons (de_var 3 (pv 3)) (da_cons (de_add (de_add (de_add (de_mul (de_mod (de_callB call_abs link_abs rfl T.z_abs bt_abs (da_cons (DE.up (de_var 2 (pv 2))) da_nil)) de_int) de_int) (de_mul de_int (de_var 1 (pv 1)))) (de_mul de_int (de_callT call_int1 link_int rfl T.z_int bt_int (da_cons (DE.up (de_cmp op_ltD link_lt (nomark _) (de_var 2 (pv 2)) de_int)) da_nil)))) de_int) (da_cons de_int da_nil)))))))))
abbrev N_require_lot : List Str := ["lot"]
theorem ok_require_lot (T : Txt K mg base) : FnD P w K mg base 2 T.f_require_lot c_require_lot := by
  have sc : FnScope N_require_lot ["lot"] (defScope s_require_lot) := ⟨rfl, rfl, rfl, by decide +kernel, rfl, by decide +kernel, by decide +kernel⟩
  have hN := sc.nd
  refine FnD.imp (fnD_of (m := b_require_lot) T.F_require_lot sc T.b_require_lot fun cdv A outer s H E hG hr => ?_) c_require_lot_ok
  exact (dss_one (ds_if (dt_not (dt_val (de_isiX T.n_Lot T.g_Lot rfl (by decide) T.ki_Lot T.ksl (by decide) rfl T.z_isinstance (de_var 0 (pv 0)))))
  (dss_one (ds_raise0 PySem.F.excBase_ValueError T.xi_InvalidLot T.n_InvalidLot T.g_InvalidLot T.kp_InvalidLot T.sb_InvalidLot T.ty_InvalidLot rfl (takes_of rfl rfl rfl rfl) rfl))
  dss_nil))
abbrev N_require_store : List Str := ["store"]
theorem ok_require_store (T : Txt K mg base) : FnD P w K mg base 2 T.f_require_store c_require_store := by
  have sc : FnScope N_require_store ["store"] (defScope s_require_store) := ⟨rfl, rfl, rfl, by decide +kernel, rfl, by decide +kernel, by decide +kernel⟩
  have hN := sc.nd
  refine FnD.imp (fnD_of (m := b_require_store) T.F_require_store sc T.b_require_store fun cdv A outer s H E hG hr => ?_) c_require_store_ok
  exact (dss_one (ds_if (dt_not (dt_val (de_isiX T.n_Store T.g_Store rfl (by decide) T.ki_Store T.ksl (by decide) rfl T.z_isinstance (de_var 0 (pv 0)))))
  (dss_one (ds_raise0 PySem.F.excBase_ValueError T.xi_InvalidStore T.n_InvalidStore T.g_InvalidStore T.kp_InvalidStore T.sb_InvalidStore T.ty_InvalidStore rfl (takes_of rfl rfl rfl rfl) rfl))
  dss_nil))
abbrev N_is_greedy : List Str := ["lot", "store", "value", "packing", "left", "counts", "size", "many", "first", "room", "filling"]
theorem ok_is_greedy (T : Txt K mg base) : FnD P w K mg base 3 T.f_is_greedy c_is_greedy := by
  have sc : FnScope N_is_greedy ["lot", "store", "value"] (defScope s_is_greedy) := ⟨rfl, rfl, rfl, by decide +kernel, rfl, by decide +kernel, by decide +kernel⟩
  have hN := sc.nd
  refine FnD.imp (fnD_of (m := b_is_greedy) T.F_is_greedy sc T.b_is_greedy fun cdv A outer s H E hG hr => ?_) c_is_greedy_ok
  exact (dss_cons (ds_expr (de_call (ok_require_lot T) hG (hr.mono (by decide)) (takes_of rfl rfl rfl rfl) rfl T.m_require_lot T.k_require_lot (da_cons (de_var 0 (pv 0)) da_nil)))
  (dss_cons (ds_expr (de_call (ok_require_store T) hG (hr.mono (by decide)) (takes_of rfl rfl rfl rfl) rfl T.m_require_store T.k_require_store (da_cons (de_var 1 (pv 1)) da_nil)))
  (dss_cons (ds_if (dt_w (dw_or (dt_not (dt_val (de_isiT T.kits T.kback (by decide) rfl T.z_isinstance (de_var 2 (pv 2)) rfl T.z_tuple bt_tuple))) (dw_or1 (dt_cmp (op_neD hr.units) link_ne (nomark _) (de_callB call_len link_len rfl T.z_len bt_len (da_cons (DE.up (de_var 2 (pv 2))) da_nil)) de_int))))
  (dss_one (ds_ret de_bool))
  dss_nil)
  dss_never)))
abbrev N_Store_runs : List Str := ["self"]
theorem ok_Store_runs (T : Txt K mg base) : FnD P w K mg base 1 T.f_Store_runs c_Store_runs := by
  have sc : FnScope N_Store_runs ["self"] (defScope s_Store_runs) := ⟨rfl, rfl, rfl, by decide +kernel, rfl, by decide +kernel, by decide +kernel⟩
  have hN := sc.nd
  refine FnD.imp (fnD_of (m := b_Store_runs) T.F_Store_runs sc T.b_Store_runs fun cdv A outer s H E hG hr => ?_) c_Store_runs_ok
  exact (dss_one (ds_ret (de_fld T.n_Store T.cl_Store T.no_Store_own_runs (de_var 0 (pv 0)))))
abbrev N_Filler_init : List Str := ["self", "store", "room", "many"]
theorem ok_Filler_init (T : Txt K mg base) : FnM P w K mg base 3 T.f_Filler_init c_Filler_init := by
  have sc : FnScope N_Filler_init ["self", "store"] (defScope s_Filler_init) := ⟨rfl, rfl, rfl, by decide +kernel, rfl, by decide +kernel, by decide +kernel⟩
  have hN := sc.nd
  refine FnM.imp (fnM_of (m := b_Filler_init) T.F_Filler_init sc T.b_Filler_init (by simp) fun cdv A outer s H E hG hr => ?_) c_Filler_init_ok
  exact (dss_one (ds_fld 0 T.n_Filler T.cl_Filler T.no_Filler_own_runs (pv 0) (DF.de (ba := false) (df_comp (own := [("room", 2), ("many", 3)]) rfl hN (di_seq (ba := true) (DE.up (de_prop T.n_Store T.cl_Store T.pr_Store_runs (ok_Store_runs T) hG (hr.mono (by decide)) (de_var 1 (pv 1)) rfl))) (blkOk_by (N := N_Filler_init) (sc := defScope s_Filler_init) (by decide +kernel)) (fun _ _ _ _ _ => (dgw_tup rfl (dgws_cons (dgw_name 2 (pg_name hN rfl (by first | exact .inl rfl | exact .inr rfl))) (dgws_cons (dgw_name 3 (pg_name hN rfl (by first | exact .inl rfl | exact .inr rfl))) dgws_nil)))) (fun _ _ _ _ _ => dts_nil) (fun _ _ _ _ _ => (de_tup (da_cons (de_var 2 (pv 2)) (da_cons (de_var 3 (pv 3)) (da_cons (de_tup da_nil) da_nil)))))))))
abbrev N_is_filling : List Str := ["value", "part", "one", "other"]
theorem ok_is_filling (T : Txt K mg base) : FnD P w K mg base 3 T.f_is_filling c_is_filling := by
  have sc : FnScope N_is_filling ["value"] (defScope s_is_filling) := ⟨rfl, rfl, rfl, by decide +kernel, rfl, by decide +kernel, by decide +kernel⟩
  have hN := sc.nd
  refine FnD.imp (fnD_of (m := b_is_filling) T.F_is_filling sc T.b_is_filling fun cdv A outer s H E hG hr => ?_) c_is_filling_ok
  exact (dss_cons (ds_if (dt_w (dw_or (dt_not (dt_val (de_isiT T.kits T.kback (by decide) rfl T.z_isinstance (de_var 0 (pv 0)) rfl T.z_tuple bt_tuple))) (dw_or1 (dt_cmp op_gtD link_gt (nomark _) (de_callB call_len link_len rfl T.z_len bt_len (da_cons (DE.up (de_var 0 (pv 0))) da_nil)) (de_const (v := V.int 12) (pe_glob rfl T.g_MAX_SIZES_packings ⟨_, rfl⟩) fun _ => .int _)))))
  (dss_one (ds_ret de_bool))
  dss_nil)
  (dss_cons (ds_for (passes_of rfl) rfl (di_seq (ba := false) (de_var 0 (pv 0))) (dg_name 1 (pg_name hN rfl (by first | exact .inl rfl | exact .inr rfl)))
  (dss_one (ds_if (dt_w (dw_or (dt_not (dt_val (de_isiT T.kits T.kback (by decide) rfl T.z_isinstance (de_var 1 (pv 1)) rfl T.z_tuple bt_tuple))) (dw_or (dt_cmp (op_neD hr.units) link_ne (nomark _) (de_callB call_len link_len rfl T.z_len bt_len (da_cons (DE.up (de_var 1 (pv 1))) da_nil)) de_int) (dw_or (dt_not (dt_val (de_call (ok_is_size T) hG (hr.mono (by decide)) (takes_of rfl rfl rfl rfl) rfl T.m_is_size T.k_is_size (da_cons (de_ix (fun _ _ => rfl) (de_var 1 (pv 1)) de_int) da_nil)))) (dw_or1 (dt_not (dt_val (de_call (ok_is_size T) hG (hr.mono (by decide)) (takes_of rfl rfl rfl rfl) rfl T.m_is_size T.k_is_size (da_cons (de_ix (fun _ _ => rfl) (de_var 1 (pv 1)) de_int) da_nil)))))))))
    (dss_one (ds_ret de_bool))
    dss_nil)))
  (dss_one (ds_ret (de_callB (cr_all rfl) link_all rfl T.z_all bt_all (da_cons (DE.up (DF.de (ba := false) (df_comp (own := [("one", 2), ("other", 3)]) rfl hN (di_zip (ba := true) rfl T.z_zip (da_cons (DE.up (de_var 0 (pv 0))) (da_cons (DE.up (de_slice (de_var 0 (pv 0)) (do_some de_int) do_none)) da_nil))) (blkOk_by (N := N_is_filling) (sc := defScope s_is_filling) (by decide +kernel)) (fun _ _ _ _ _ => (dgw_tup rfl (dgws_cons (dgw_name 2 (pg_name hN rfl (by first | exact .inl rfl | exact .inr rfl))) (dgws_cons (dgw_name 3 (pg_name hN rfl (by first | exact .inl rfl | exact .inr rfl))) dgws_nil)))) (fun _ _ _ _ _ => dts_nil) (fun _ _ _ _ _ => (de_cmp op_ltD link_lt (nomark _) (de_ix (fun _ _ => rfl) (de_var 2 (pv 2)) de_int) (de_ix (fun _ _ => rfl) (de_var 3 (pv 3)) de_int)))))) da_nil))))))
abbrev N_load_in : List Str := ["filling", "size", "count"]
theorem ok_load_in (T : Txt K mg base) : FnD P w K mg base 1 T.f_load_in c_load_in := by
  have sc : FnScope N_load_in ["filling"] (defScope s_load_in) := ⟨rfl, rfl, rfl, by decide +kernel, rfl, by decide +kernel, by decide +kernel⟩
  have hN := sc.nd
  refine FnD.imp (fnD_of (m := b_load_in) T.F_load_in sc T.b_load_in fun cdv A outer s H E hG hr => ?_) c_load_in_ok
  exact (dss_one (ds_ret (de_callB (cr_sum rfl) link_sum rfl T.z_sum bt_sum (da_cons (DE.up (DF.de (ba := false) (df_comp (own := [("size", 1), ("count", 2)]) rfl hN (di_seq (ba := true) (DE.up (de_var 0 (pv 0)))) (blkOk_by (N := N_load_in) (sc := defScope s_load_in) (by decide +kernel)) (fun _ _ _ _ _ => (dgw_tup rfl (dgws_cons (dgw_name 1 (pg_name hN rfl (by first | exact .inl rfl | exact .inr rfl))) (dgws_cons (dgw_name 2 (pg_name hN rfl (by first | exact .inl rfl | exact .inr rfl))) dgws_nil)))) (fun _ _ _ _ _ => dts_nil) (fun _ _ _ _ _ => (de_mul (de_var 1 (pv 1)) (de_var 2 (pv 2))))))) da_nil))))
abbrev N_is_run : List Str := ["value"]
theorem ok_is_run (T : Txt K mg base) : FnD P w K mg base 4 T.f_is_run c_is_run := by
  have sc : FnScope N_is_run ["value"] (defScope s_is_run) := ⟨rfl, rfl, rfl, by decide +kernel, rfl, by decide +kernel, by decide +kernel⟩
  have hN := sc.nd
  refine FnD.imp (fnD_of (m := b_is_run) T.F_is_run sc T.b_is_run fun cdv A outer s H E hG hr => ?_) c_is_run_ok
  exact (dss_cons (ds_if (dt_w (dw_or (dt_not (dt_val (de_isiT T.kits T.kback (by decide) rfl T.z_isinstance (de_var 0 (pv 0)) rfl T.z_tuple bt_tuple))) (dw_or (dt_cmp (op_neD hr.units) link_ne (nomark _) (de_callB call_len link_len rfl T.z_len bt_len (da_cons (DE.up (de_var 0 (pv 0))) da_nil)) de_int) (dw_or (dt_not (dt_val (de_call (ok_is_size T) hG (hr.mono (by decide)) (takes_of rfl rfl rfl rfl) rfl T.m_is_size T.k_is_size (da_cons (de_ix (fun _ _ => rfl) (de_var 0 (pv 0)) de_int) da_nil)))) (dw_or1 (dt_not (dt_val (de_call (ok_is_size T) hG (hr.mono (by decide)) (takes_of rfl rfl rfl rfl) rfl T.m_is_size T.k_is_size (da_cons (de_ix (fun _ _ => rfl) (de_var 0 (pv 0)) de_int) da_nil)))))))))
  (dss_one (ds_ret de_bool))
  dss_nil)
  (dss_one (ds_ret (de_and (de_call (ok_is_filling T) hG (hr.mono (by decide)) (takes_of rfl rfl rfl rfl) rfl T.m_is_filling T.k_is_filling (da_cons (de_ix (fun _ _ => rfl) (de_var 0 (pv 0)) de_int) da_nil)) (de_one (de_cmp op_leD link_le (nomark _) (de_call (ok_load_in T) hG (hr.mono (by decide)) (takes_of rfl rfl rfl rfl) rfl T.m_load_in T.k_load_in (da_cons (de_ix (fun _ _ => rfl) (de_var 0 (pv 0)) de_int) da_nil)) (de_ix (fun _ _ => rfl) (de_var 0 (pv 0)) de_int)))))))
abbrev N_joined_runs : List Str := ["runs", "found", "room", "many", "filling"]
theorem ok_joined_runs (T : Txt K mg base) : FnD P w K mg base 1 T.f_joined_runs c_joined_runs := by
  have sc : FnScope N_joined_runs ["runs"] (defScope s_joined_runs) := ⟨rfl, rfl, rfl, by decide +kernel, rfl, by decide +kernel, by decide +kernel⟩
  have hN := sc.nd
  refine FnD.imp (fnD_of (m := b_joined_runs) T.F_joined_runs sc T.b_joined_runs fun cdv A outer s H E hG hr => ?_) c_joined_runs_ok
  exact (dss_cons (ds_setm 1 hN (df_lst da_nil))
  (dss_cons (ds_for (passes_of rfl) rfl (di_seq (ba := false) (de_var 0 (pv 0))) (dg_tup rfl (dgs_cons (dg_name 2 (pg_name hN rfl (by first | exact .inl rfl | exact .inr rfl))) (dgs_cons (dg_name 3 (pg_name hN rfl (by first | exact .inl rfl | exact .inr rfl))) (dgs_cons (dg_name 4 (pg_name hN rfl (by first | exact .inl rfl | exact .inr rfl))) dgs_nil))))
  (dss_one (ds_if (dt_w (dw_and (dt_cmp (op_neD hr.units) link_ne (nomark _) (de_mut 1 (pv 1)) (DF.de (ba := false) (df_lst da_nil))) (dw_and (dt_cmp (op_eqD hr.units) link_eq (nomark _) (de_ix (fun _ _ => rfl) (de_ix (fun _ _ => rfl) (de_mut 1 (pv 1)) (de_neg de_int)) de_int) (de_var 2 (pv 2))) (dw_and1 (dt_cmp (op_eqD hr.units) link_eq (nomark _) (de_ix (fun _ _ => rfl) (de_ix (fun _ _ => rfl) (de_mut 1 (pv 1)) (de_neg de_int)) de_int) (de_var 4 (pv 4)))))))
    (dss_one (ds_putL 1 (pv 1) (de_neg de_int) (de_tup (da_cons (de_var 2 (pv 2)) (da_cons (de_add (de_ix (fun _ _ => rfl) (de_ix (fun _ _ => rfl) (de_mut 1 (pv 1)) (de_neg de_int)) de_int) (de_var 3 (pv 3))) (da_cons (de_var 4 (pv 4)) da_nil))))))
    (dss_one (ds_app 1 (pv 1) (de_tup (da_cons (de_var 2 (pv 2)) (da_cons (de_var 3 (pv 3)) (da_cons (de_var 4 (pv 4)) da_nil)))))))))
  (dss_frz 1 (dss_one (ds_ret (de_var 1 (pv 1)))))))
abbrev N_rooms_in : List Str := ["runs", "found", "room", "many", "filling"]
theorem ok_rooms_in (T : Txt K mg base) : FnD P w K mg base 1 T.f_rooms_in c_rooms_in := by
  have sc : FnScope N_rooms_in ["runs"] (defScope s_rooms_in) := ⟨rfl, rfl, rfl, by decide +kernel, rfl, by decide +kernel, by decide +kernel⟩
  have hN := sc.nd
  refine FnD.imp (fnD_of (m := b_rooms_in) T.F_rooms_in sc T.b_rooms_in fun cdv A outer s H E hG hr => ?_) c_rooms_in_ok
  exact (dss_cons (ds_setm 1 hN (df_lst da_nil))
  (dss_cons (ds_for (passes_of rfl) rfl (di_seq (ba := false) (de_var 0 (pv 0))) (dg_tup rfl (dgs_cons (dg_name 2 (pg_name hN rfl (by first | exact .inl rfl | exact .inr rfl))) (dgs_cons (dg_name 3 (pg_name hN rfl (by first | exact .inl rfl | exact .inr rfl))) (dgs_cons (dg_name 4 (pg_name hN rfl (by first | exact .inl rfl | exact .inr rfl))) dgs_nil))))
  (dss_one (ds_if (dt_w (dw_and (dt_cmp (op_neD hr.units) link_ne (nomark _) (de_mut 1 (pv 1)) (DF.de (ba := false) (df_lst da_nil))) (dw_and1 (dt_cmp (op_eqD hr.units) link_eq (nomark _) (de_ix (fun _ _ => rfl) (de_ix (fun _ _ => rfl) (de_mut 1 (pv 1)) (de_neg de_int)) de_int) (de_var 2 (pv 2))))))
    (dss_one (ds_putL 1 (pv 1) (de_neg de_int) (de_tup (da_cons (de_var 2 (pv 2)) (da_cons (de_add (de_ix (fun _ _ => rfl) (de_ix (fun _ _ => rfl) (de_mut 1 (pv 1)) (de_neg de_int)) de_int) (de_var 3 (pv 3))) da_nil)))))
    (dss_one (ds_app 1 (pv 1) (de_tup (da_cons (de_var 2 (pv 2)) (da_cons (de_var 3 (pv 3)) da_nil))))))))
  (dss_frz 1 (dss_one (ds_ret (de_var 1 (pv 1)))))))
abbrev N_sizes_in : List Str := ["runs", "room", "many", "filling", "size", "count"]
theorem ok_sizes_in (T : Txt K mg base) : FnD P w K mg base 1 T.f_sizes_in c_sizes_in := by
  have sc : FnScope N_sizes_in ["runs"] (defScope s_sizes_in) := ⟨rfl, rfl, rfl, by decide +kernel, rfl, by decide +kernel, by decide +kernel⟩
  have hN := sc.nd
  refine FnD.imp (fnD_of (m := b_sizes_in) T.F_sizes_in sc T.b_sizes_in fun cdv A outer s H E hG hr => ?_) c_sizes_in_ok
  exact (dss_one (ds_ret (DF.de (ba := false) (df_compD2 (own := [("room", 1), ("many", 2), ("filling", 3), ("size", 4), ("count", 5)]) (vs1 := [4, 5]) rfl hN (di_seq (ba := true) (DE.up (de_var 0 (pv 0)))) (blkOk_by (N := N_sizes_in) (sc := defScope s_sizes_in) (by decide +kernel)) (by decide) (kg_T (kgs_cons (kg_N 1) (kgs_cons (kg_N 2) (kgs_cons (kg_N 3) kgs_nil)))) (fun _ _ _ _ _ => (dgw_tup rfl (dgws_cons (dgw_name 1 (pg_name hN rfl (by first | exact .inl rfl | exact .inr rfl))) (dgws_cons (dgw_name 2 (pg_name hN rfl (by first | exact .inl rfl | exact .inr rfl))) (dgws_cons (dgw_name 3 (pg_name hN rfl (by first | exact .inl rfl | exact .inr rfl))) dgws_nil))))) (fun _ _ _ _ _ => dts_nil) (fun _ _ _ _ _ => (di_seq (ba := false) (de_var 3 (pv 3)))) (fun _ _ _ _ _ => (dgw_tup rfl (dgws_cons (dgw_name 4 (pg_name hN rfl (by first | exact .inl rfl | exact .inr rfl))) (dgws_cons (dgw_name 5 (pg_name hN rfl (by first | exact .inl rfl | exact .inr rfl))) dgws_nil)))) (fun _ _ _ _ _ => dts_nil) (fun _ _ _ _ _ => (de_var 4 (pv 4))) (fun _ _ _ _ _ => de_bool)))))
abbrev N_Packing_init : List Str := ["self", "runs", "run", "found"]
theorem ok_Packing_init (T : Txt K mg base) : FnI' P w K mg base 5 T.f_Packing_init "Packing" c_Packing_init := by
  have sc : FnScope N_Packing_init ((["self"] : List Str) ++ [("runs" : Str)]) (defScope s_Packing_init) := ⟨rfl, rfl, rfl, by decide +kernel, rfl, by decide +kernel, by decide +kernel⟩
  have hN := sc.nd
  refine FnI'.imp (fnI_star (m := b_Packing_init) (ma := v_Packing_init) T.F_Packing_init sc T.b_Packing_init T.n_Packing T.sc_Packing T.st_Packing (by rfl) fun cdv A outer s H E hG hr => ⟨_, _, _, _, _, rfl, ?_, ?_, pv 0, rfl⟩) c_Packing_init_ok
  · exact (dss_cons (ds_if (dt_w (dw_or (dt_cmp op_gtD link_gt (nomark _) (de_callB call_len link_len rfl T.z_len bt_len (da_cons (DE.up (de_var 1 (pv 1))) da_nil)) (de_const (v := V.int 2000) (pe_glob rfl T.g_MAX_RUNS_packings ⟨_, rfl⟩) fun _ => .int _)) (dw_or1 (dt_not (dt_val (de_callB (cr_all rfl) link_all rfl T.z_all bt_all (da_cons (DE.up (DF.de (ba := false) (df_comp (own := [("run", 2)]) rfl hN (di_seq (ba := true) (DE.up (de_var 1 (pv 1)))) (blkOk_by (N := N_Packing_init) (sc := defScope s_Packing_init) (by decide +kernel)) (fun _ _ _ _ _ => (dgw_name 2 (pg_name hN rfl (by first | exact .inl rfl | exact .inr rfl)))) (fun _ _ _ _ _ => dts_nil) (fun _ _ _ _ _ => (de_call (ok_is_run T) hG (hr.mono (by decide)) takes0 rfl T.ml_is_run_packings T.k_is_run (da_cons (de_var 2 (pv 2)) da_nil)))))) da_nil)))))))
  (dss_one (ds_raise0 PySem.F.excBase_ValueError T.xi_InvalidPacking T.n_InvalidPacking T.g_InvalidPacking T.kp_InvalidPacking T.sb_InvalidPacking T.ty_InvalidPacking rfl (takes_of rfl rfl rfl rfl) rfl))
  dss_nil)
  (dss_cons (ds_set 3 hN (de_call (ok_joined_runs T) hG (hr.mono (by decide)) (takes_of rfl rfl rfl rfl) rfl T.m_joined_runs T.k_joined_runs (da_cons (de_var 1 (pv 1)) da_nil)))
  (dss_one (ds_if (dt_w (dw_or (dt_cmp op_gtD link_gt (nomark _) (de_callB call_lenY link_lenY rfl T.z_len bt_len (da_cons (DE.up (de_call (ok_sizes_in T) hG (hr.mono (by decide)) (takes_of rfl rfl rfl rfl) rfl T.m_sizes_in T.k_sizes_in (da_cons (de_var 3 (pv 3)) da_nil))) da_nil)) (de_const (v := V.int 12) (pe_glob rfl T.g_MAX_SIZES_packings ⟨_, rfl⟩) fun _ => .int _)) (dw_or1 (dt_cmp op_gtD link_gt (nomark _) (de_callB call_len link_len rfl T.z_len bt_len (da_cons (DE.up (de_call (ok_rooms_in T) hG (hr.mono (by decide)) (takes_of rfl rfl rfl rfl) rfl T.m_rooms_in T.k_rooms_in (da_cons (de_var 3 (pv 3)) da_nil))) da_nil)) (de_const (v := V.int 40) (pe_glob rfl T.g_MAX_STORE ⟨_, rfl⟩) fun _ => .int _)))))
  (dss_one (ds_raise0 PySem.F.excBase_ValueError T.xi_InvalidPacking T.n_InvalidPacking T.g_InvalidPacking T.kp_InvalidPacking T.sb_InvalidPacking T.ty_InvalidPacking rfl (takes_of rfl rfl rfl rfl) rfl))
  dss_nil))))
  · exact (de_callT call_tuple_of link_tuple rfl T.z_tuple bt_tuple (da_cons (DE.up (de_var 3 (pv 3))) da_nil))
abbrev N_Filler_packing : List Str := ["self"]
theorem ok_Filler_packing (T : Txt K mg base) : FnD P w K mg base 7 T.f_Filler_packing c_Filler_packing := by
  have sc : FnScope N_Filler_packing ["self"] (defScope s_Filler_packing) := ⟨rfl, rfl, rfl, by decide +kernel, rfl, by decide +kernel, by decide +kernel⟩
  have hN := sc.nd
  refine FnD.imp (fnD_of (m := b_Filler_packing) T.F_Filler_packing sc T.b_Filler_packing fun cdv A outer s H E hG hr => ?_) c_Filler_packing_ok
  exact (dss_one (ds_ret (de_makeIS T.n_Packing T.mk_Packing (ok_Packing_init T) hG (hr.mono (by decide)) (takes_of rfl rfl rfl rfl) rfl T.g_Packing (de_fld T.n_Filler T.cl_Filler T.no_Filler_own_runs (de_var 0 (pv 0))))))
abbrev N_Filler_order : List Str := ["self", "size", "rule", "left", "room", "many", "filling", "found", "at"]
theorem ok_Filler_order (T : Txt K mg base) : FnD P w K mg base 2 T.f_Filler_order m_Filler_order := by
  have sc : FnScope N_Filler_order ["self", "size", "rule"] (defScope s_Filler_order) := ⟨rfl, rfl, rfl, by decide +kernel, rfl, by decide +kernel, by decide +kernel⟩
  have hN := sc.nd
  refine (fnD_of (m := b_Filler_order) T.F_Filler_order sc T.b_Filler_order fun cdv A outer s H E hG hr => ?_)
  exact (dss_cons (ds_set 3 hN (DF.de (ba := false) (df_comp (own := [("room", 4), ("many", 5), ("filling", 6)]) rfl hN (di_seq (ba := true) (DE.up (de_fld T.n_Filler T.cl_Filler T.no_Filler_own_runs (de_var 0 (pv 0))))) (blkOk_by (N := N_Filler_order) (sc := defScope s_Filler_order) (by decide +kernel)) (fun _ _ _ _ _ => (dgw_tup rfl (dgws_cons (dgw_name 4 (pg_name hN rfl (by first | exact .inl rfl | exact .inr rfl))) (dgws_cons (dgw_name 5 (pg_name hN rfl (by first | exact .inl rfl | exact .inr rfl))) (dgws_cons (dgw_name 6 (pg_name hN rfl (by first | exact .inl rfl | exact .inr rfl))) dgws_nil))))) (fun _ _ _ _ _ => dts_nil) (fun _ _ _ _ _ => (de_sub (de_var 4 (pv 4)) (de_call (ok_load_in T) hG (hr.mono (by decide)) takes0 rfl T.m_load_in T.k_load_in (da_cons (de_var 6 (pv 6)) da_nil)))))))
  (dss_cons (ds_setLc 7 (y := "found") (own := [("at", 8)]) rfl hN (di_range1 (ba := true) rfl T.z_range (da_cons (DE.up (de_callB call_len link_len rfl T.z_len bt_len (da_cons (DE.up (de_var 3 (pv 3))) da_nil))) da_nil)) (blkOk_by (N := N_Filler_order) (sc := defScope s_Filler_order) (by decide +kernel)) (fun _ _ _ _ _ => (dgw_name 8 (pg_name hN rfl (by first | exact .inl rfl | exact .inr rfl)))) (fun _ _ _ _ _ => (dts_one (dt_cmp op_geD link_ge (nomark _) (de_ix (fun _ _ => rfl) (de_var 3 (pv 3)) (de_var 8 (pv 8))) (de_var 1 (pv 1))))) (fun _ _ _ _ _ => (de_var 8 (pv 8))))
  (dss_cons (ds_if (dt_cmp (op_eqD hr.units) link_eq (nomark _) (de_var 2 (pv 2)) (de_const (v := V.str "last") (pe_glob rfl T.g_LAST ⟨_, rfl⟩) fun _ => .str _))
  (dss_one (ds_ret (de_rev (de_var 7 (pv 7)))))
  dss_nil)
  (dss_one (ds_ret (de_if (dt_cmp (op_eqD hr.units) link_eq (nomark _) (de_var 2 (pv 2)) (de_const (v := V.str "tightest") (pe_glob rfl T.g_TIGHTEST ⟨_, rfl⟩) fun _ => .str _)) de_bot (de_var 7 (pv 7))))))))
abbrev N_with_more : List Str := ["filling", "size", "many", "counts"]
theorem ok_with_more (T : Txt K mg base) : FnD P w K mg base 1 T.f_with_more m_with_more := by
  have sc : FnScope N_with_more ["filling", "size", "many"] (defScope s_with_more) := ⟨rfl, rfl, rfl, by decide +kernel, rfl, by decide +kernel, by decide +kernel⟩
  have hN := sc.nd
  refine (fnD_of (m := b_with_more) T.F_with_more sc T.b_with_more fun cdv A outer s H E hG hr => ?_)
  exact (dss_cons (ds_setm 3 hN (df_callT (call_dictP rfl) link_dictP rfl T.z_dict bt_dict (da_cons (DE.up (DF.de (ba := false) (df_callT call_list_of link_list rfl T.z_list bt_list (da_cons (DE.up (de_var 0 (pv 0))) da_nil)))) da_nil)))
  (dss_cons (ds_put 3 (Nat.lt_of_le_of_lt (Nat.add_le_add_left (by decide : 1 ≤ 65) _) (units65 hr)) (pv 3) (de_var 1 (pv 1)) (de_add (de_dget2 (Nat.lt_of_le_of_lt (Nat.add_le_add_left (by decide : 1 ≤ 65) _) (units65 hr)) (de_mut 3 (pv 3)) (de_var 1 (pv 1)) de_int M2.of) (de_var 2 (pv 2))))
  (dss_frz 3 (dss_one (ds_ret (de_callT call_tuple_of link_tuple rfl T.z_tuple bt_tuple (da_cons (DE.up (DF.de (ba := false) (df_callB cr_sortedI link_sortI rfl T.z_sorted bt_sorted (da_cons (DE.up (DF.de (ba := false) (df_listItems rfl (de_var 3 (pv 3)) rfl T.z_list bt_list (by rfl)))) da_nil)))) da_nil)))))))
abbrev N_filled : List Str := ["run", "size", "each", "room", "many", "filling"]
theorem ok_filled (T : Txt K mg base) : FnD P w K mg base 2 T.f_filled m_filled := by
  have sc : FnScope N_filled ["run", "size", "each"] (defScope s_filled) := ⟨rfl, rfl, rfl, by decide +kernel, rfl, by decide +kernel, by decide +kernel⟩
  have hN := sc.nd
  refine (fnD_of (m := b_filled) T.F_filled sc T.b_filled fun cdv A outer s H E hG hr => ?_)
  exact (dss_cons (ds_asg (de_var 0 (pv 0)) (dg_tup rfl (dgs_cons (dg_name 3 (pg_name hN rfl (by first | exact .inl rfl | exact .inr rfl))) (dgs_cons (dg_name 4 (pg_name hN rfl (by first | exact .inl rfl | exact .inr rfl))) (dgs_cons (dg_name 5 (pg_name hN rfl (by first | exact .inl rfl | exact .inr rfl))) dgs_nil)))))
  (dss_one (ds_ret (de_if (dt_cmp op_gtD link_gt (nomark _) (de_var 2 (pv 2)) de_int) (de_tup (da_cons (de_var 3 (pv 3)) (da_cons (de_var 4 (pv 4)) (da_cons (de_call (ok_with_more T) hG (hr.mono (by decide)) (takes_of rfl rfl rfl rfl) rfl T.m_with_more T.k_with_more (da_cons (de_var 5 (pv 5)) (da_cons (de_var 1 (pv 1)) (da_cons (de_var 2 (pv 2)) da_nil)))) da_nil)))) (de_var 0 (pv 0))))))
abbrev N_Filler_put_in : List Str := ["self", "at", "size", "many", "rule", "room", "rooms", "filling", "each", "full", "rest", "found", "spare"]
theorem ok_Filler_put_in (T : Txt K mg base) : FnD P w K mg base 3 T.f_Filler_put_in m_Filler_put_in := by
  have sc : FnScope N_Filler_put_in ["self", "at", "size", "many", "rule"] (defScope s_Filler_put_in) := ⟨rfl, rfl, rfl, by decide +kernel, rfl, by decide +kernel, by decide +kernel⟩
  have hN := sc.nd
  refine (fnD_of (m := b_Filler_put_in) T.F_Filler_put_in sc T.b_Filler_put_in fun cdv A outer s H E hG hr => ?_)
  exact (dss_cons (ds_asg (de_ix (fun _ _ => rfl) (de_fld T.n_Filler T.cl_Filler T.no_Filler_own_runs (de_var 0 (pv 0))) (de_var 1 (pv 1))) (dg_tup rfl (dgs_cons (dg_name 5 (pg_name hN rfl (by first | exact .inl rfl | exact .inr rfl))) (dgs_cons (dg_name 6 (pg_name hN rfl (by first | exact .inl rfl | exact .inr rfl))) (dgs_cons (dg_name 7 (pg_name hN rfl (by first | exact .inl rfl | exact .inr rfl))) dgs_nil)))))
  (dss_cons (ds_set 8 hN (de_div (de_sub (de_var 5 (pv 5)) (de_call (ok_load_in T) hG (hr.mono (by decide)) (takes_of rfl rfl rfl rfl) rfl T.m_load_in T.k_load_in (da_cons (de_var 7 (pv 7)) da_nil))) (de_var 2 (pv 2))))
  (dss_cons (ds_if (dt_cmp op_geD link_ge (nomark _) (de_var 3 (pv 3)) (de_mul (de_var 8 (pv 8)) (de_var 6 (pv 6))))
  (dss_one (ds_ret (de_tup (da_cons (DF.de (ba := false) (df_lst (da_cons (de_call (ok_filled T) hG (hr.mono (by decide)) (takes_of rfl rfl rfl rfl) rfl T.m_filled T.k_filled (da_cons (de_tup (da_cons (de_var 5 (pv 5)) (da_cons (de_var 6 (pv 6)) (da_cons (de_var 7 (pv 7)) da_nil)))) (da_cons (de_var 2 (pv 2)) (da_cons (de_var 8 (pv 8)) da_nil)))) da_nil))) (da_cons (de_sub (de_var 3 (pv 3)) (de_mul (de_var 8 (pv 8)) (de_var 6 (pv 6)))) da_nil)))))
  dss_nil)
  (dss_cons (ds_par 9 10 rfl hN (da_cons (de_div (de_var 3 (pv 3)) (de_var 8 (pv 8))) (da_cons (de_mod (de_var 3 (pv 3)) (de_var 8 (pv 8))) da_nil)))
  (dss_cons (ds_setm 11 hN (df_if (dt_cmp op_gtD link_gt (nomark _) (de_var 9 (pv 9)) de_int) (df_lst (da_cons (de_call (ok_filled T) hG (hr.mono (by decide)) (takes_of rfl rfl rfl rfl) rfl T.m_filled T.k_filled (da_cons (de_tup (da_cons (de_var 5 (pv 5)) (da_cons (de_var 9 (pv 9)) (da_cons (de_var 7 (pv 7)) da_nil)))) (da_cons (de_var 2 (pv 2)) (da_cons (de_var 8 (pv 8)) da_nil)))) da_nil)) (df_lst da_nil)))
  (dss_cons (ds_if (dt_cmp op_gtD link_gt (nomark _) (de_var 10 (pv 10)) de_int)
  (dss_one (ds_app 11 (pv 11) (de_call (ok_filled T) hG (hr.mono (by decide)) (takes_of rfl rfl rfl rfl) rfl T.m_filled T.k_filled (da_cons (de_tup (da_cons (de_var 5 (pv 5)) (da_cons de_int (da_cons (de_var 7 (pv 7)) da_nil)))) (da_cons (de_var 2 (pv 2)) (da_cons (de_var 10 (pv 10)) da_nil))))))
  dss_nil)
  (dss_cons (ds_set 12 hN (de_sub (de_sub (de_var 6 (pv 6)) (de_var 9 (pv 9))) (de_callT call_int1 link_int rfl T.z_int bt_int (da_cons (DE.up (de_cmp op_gtD link_gt (nomark _) (de_var 10 (pv 10)) de_int)) da_nil))))
  (dss_cons (ds_if (dt_cmp op_gtD link_gt (nomark _) (de_var 12 (pv 12)) de_int)
  (dss_one (ds_app 11 (pv 11) (de_tup (da_cons (de_var 5 (pv 5)) (da_cons (de_var 12 (pv 12)) (da_cons (de_var 7 (pv 7)) da_nil))))))
  dss_nil)
  (dss_frz 11 (dss_one (ds_ret (de_tup (da_cons (de_if (dt_cmp (op_eqD hr.units) link_eq (nomark _) (de_var 4 (pv 4)) (de_const (v := V.str "last") (pe_glob rfl T.g_LAST ⟨_, rfl⟩) fun _ => .str _)) (de_rev (de_var 11 (pv 11))) (de_var 11 (pv 11))) (da_cons de_int da_nil))))))))))))))
abbrev N_Filler_put : List Str := ["self", "size", "many", "rule", "parts", "at", "runs", "run"]
theorem ok_Filler_put (T : Txt K mg base) : FnM P w K mg base 4 T.f_Filler_put m_Filler_put := by
  have sc : FnScope N_Filler_put ["self", "size", "many", "rule"] (defScope s_Filler_put) := ⟨rfl, rfl, rfl, by decide +kernel, rfl, by decide +kernel, by decide +kernel⟩
  have hN := sc.nd
  refine (fnM_of (m := b_Filler_put) T.F_Filler_put sc T.b_Filler_put (by simp) fun cdv A outer s H E hG hr => ?_)
  exact (dss_cons (ds_setm 4 hN df_dnew)
  (dss_cons (ds_for (passes_of rfl) rfl (di_seq (ba := false) (de_lendS 0 (de_meth T.n_Filler T.cl_Filler (ok_Filler_order T) T.me_Filler_order hG (hr.mono (by decide)) (takes_of rfl rfl rfl rfl) (de_var 0 (pv 0)) rfl (da_cons (de_var 1 (pv 1)) (da_cons (de_var 3 (pv 3)) da_nil))))) (dg_name 5 (pg_name hN rfl (by first | exact .inl rfl | exact .inr rfl)))
  (dss_cons (ds_if (dt_cmp (op_eqD hr.units) link_eq (nomark _) (de_var 2 (pv 2)) de_int)
    (dss_one ds_break)
    dss_nil)
    (dss_one (ds_asg2 (de_lendS 0 (de_meth T.n_Filler T.cl_Filler (ok_Filler_put_in T) T.me_Filler_put_in hG (hr.mono (by decide)) (takes_of rfl rfl rfl rfl) (de_var 0 (pv 0)) rfl (da_cons (de_var 5 (pv 5)) (da_cons (de_var 1 (pv 1)) (da_cons (de_var 2 (pv 2)) (da_cons (de_var 3 (pv 3)) da_nil)))))) (dg2_tup rfl (dgs2_cons (dg2_put (W := NoW) 4 (Nat.lt_of_le_of_lt (Nat.add_le_add_left (by decide : 1 ≤ 65) _) (units65 hr)) (pv 4) (de_var 5 (pv 5))) (dgs2_cons (dg2_name 2 (pg_name hN rfl (by first | exact .inl rfl | exact .inr rfl))) dgs2_nil)))))))
  (dss_frz 4 (dss_cons (ds_setm 6 hN (df_lst da_nil))
  (dss_cons (ds_for (passes_of rfl) rfl (di_enumL (ba := false) rfl T.z_enumerate (da_cons (de_sfld 0 T.n_Filler T.cl_Filler T.no_Filler_own_runs (pv 0)) da_nil)) (dg_tup rfl (dgs_cons (dg_name 5 (pg_name hN rfl (by first | exact .inl rfl | exact .inr rfl))) (dgs_cons (dg_name 7 (pg_name hN rfl (by first | exact .inl rfl | exact .inr rfl))) dgs_nil)))
  (dss_one (ds_ext 6 (pv 6) (de_dget2 (Nat.lt_of_le_of_lt (Nat.add_le_add_left (by decide : 1 ≤ 65) _) (units65 hr)) (de_var 4 (pv 4)) (de_var 5 (pv 5)) (DF.de (ba := false) (df_lst (da_cons (de_var 7 (pv 7)) da_nil))) M2.of))))
  (dss_frz 6 (dss_cons (ds_fld 0 T.n_Filler T.cl_Filler T.no_Filler_own_runs (pv 0) (de_var 6 (pv 6)))
  (dss_one (ds_ret (de_var 2 (pv 2)))))))))))
abbrev N_is_row : List Str := ["value", "part"]
theorem ok_is_row (T : Txt K mg base) : FnD P w K mg base 3 T.f_is_row c_is_row := by
  have sc : FnScope N_is_row ["value"] (defScope s_is_row) := ⟨rfl, rfl, rfl, by decide +kernel, rfl, by decide +kernel, by decide +kernel⟩
  have hN := sc.nd
  refine FnD.imp (fnD_of (m := b_is_row) T.F_is_row sc T.b_is_row fun cdv A outer s H E hG hr => ?_) c_is_row_ok
  exact (dss_cons (ds_if (dt_w (dw_or (dt_not (dt_val (de_isiT T.kits T.kback (by decide) rfl T.z_isinstance (de_var 0 (pv 0)) rfl T.z_tuple bt_tuple))) (dw_or1 (dt_cmp op_gtD link_gt (nomark _) (de_callB call_len link_len rfl T.z_len bt_len (da_cons (DE.up (de_var 0 (pv 0))) da_nil)) (de_const (v := V.int 200) (pe_glob rfl T.g_MAX_ROW ⟨_, rfl⟩) fun _ => .int _)))))
  (dss_one (ds_ret de_bool))
  dss_nil)
  (dss_cons (ds_for (passes_of rfl) rfl (di_seq (ba := false) (de_var 0 (pv 0))) (dg_name 1 (pg_name hN rfl (by first | exact .inl rfl | exact .inr rfl)))
  (dss_one (ds_if (dt_w (dw_or (dt_not (dt_val (de_isiT T.kits T.kback (by decide) rfl T.z_isinstance (de_var 1 (pv 1)) rfl T.z_tuple bt_tuple))) (dw_or (dt_cmp (op_neD hr.units) link_ne (nomark _) (de_callB call_len link_len rfl T.z_len bt_len (da_cons (DE.up (de_var 1 (pv 1))) da_nil)) de_int) (dw_or (dt_not (dt_val (de_call (ok_is_size T) hG (hr.mono (by decide)) (takes_of rfl rfl rfl rfl) rfl T.m_is_size T.k_is_size (da_cons (de_ix (fun _ _ => rfl) (de_var 1 (pv 1)) de_int) da_nil)))) (dw_or1 (dt_not (dt_val (de_call (ok_is_size T) hG (hr.mono (by decide)) (takes_of rfl rfl rfl rfl) rfl T.m_is_size T.k_is_size (da_cons (de_ix (fun _ _ => rfl) (de_var 1 (pv 1)) de_int) da_nil)))))))))
    (dss_one (ds_ret de_bool))
    dss_nil)))
  (dss_one (ds_ret (de_cmp op_leD link_le (nomark _) (de_callB call_lenY link_lenY rfl T.z_len bt_len (da_cons (DE.up (DF.de (ba := false) (df_compD (own := [("part", 1)]) rfl hN (di_seq (ba := true) (DE.up (de_var 0 (pv 0)))) (blkOk_by (N := N_is_row) (sc := defScope s_is_row) (by decide +kernel)) (fun _ _ _ _ _ => (dgw_name 1 (pg_name hN rfl (by first | exact .inl rfl | exact .inr rfl)))) (fun _ _ _ _ _ => dts_nil) (fun _ _ _ _ _ => (de_ix (fun _ _ => rfl) (de_var 1 (pv 1)) de_int)) (fun _ _ _ _ _ => de_bool)))) da_nil)) (de_const (v := V.int 12) (pe_glob rfl T.g_MAX_SIZES_rules ⟨_, rfl⟩) fun _ => .int _))))))
abbrev N_require_row : List Str := ["row"]
theorem ok_require_row (T : Txt K mg base) : FnD P w K mg base 4 T.f_require_row c_require_row := by
  have sc : FnScope N_require_row ["row"] (defScope s_require_row) := ⟨rfl, rfl, rfl, by decide +kernel, rfl, by decide +kernel, by decide +kernel⟩
  have hN := sc.nd
  refine FnD.imp (fnD_of (m := b_require_row) T.F_require_row sc T.b_require_row fun cdv A outer s H E hG hr => ?_) c_require_row_ok
  exact (dss_one (ds_if (dt_not (dt_val (de_call (ok_is_row T) hG (hr.mono (by decide)) (takes_of rfl rfl rfl rfl) rfl T.m_is_row T.k_is_row (da_cons (de_var 0 (pv 0)) da_nil))))
  (dss_one (ds_raise0 PySem.F.excBase_ValueError T.xi_InvalidOperation T.n_InvalidOperation T.g_InvalidOperation T.kp_InvalidOperation T.sb_InvalidOperation T.ty_InvalidOperation rfl (takes_of rfl rfl rfl rfl) rfl))
  dss_nil))
abbrev N_pack_row : List Str := ["row", "store", "filler", "number", "size", "many", "rest"]
theorem ok_pack_row (T : Txt K mg base) : FnD P w K mg base 8 T.f_pack_row c_pack_row := by
  have sc : FnScope N_pack_row ["row", "store"] (defScope s_pack_row) := ⟨rfl, rfl, rfl, by decide +kernel, rfl, by decide +kernel, by decide +kernel⟩
  have hN := sc.nd
  refine FnD.imp (fnD_of (m := b_pack_row) T.F_pack_row sc T.b_pack_row fun cdv A outer s H E hG hr => ?_) c_pack_row_ok
  exact (dss_cons (ds_expr (de_call (ok_require_row T) hG (hr.mono (by decide)) (takes_of rfl rfl rfl rfl) rfl T.m_require_row T.k_require_row (da_cons (de_var 0 (pv 0)) da_nil)))
  (dss_cons (ds_expr (de_call (ok_require_store T) hG (hr.mono (by decide)) (takes_of rfl rfl rfl rfl) rfl T.m_require_store T.k_require_store (da_cons (de_var 1 (pv 1)) da_nil)))
  (dss_cons (ds_parm 2 3 rfl hN (df_make T.n_Filler T.mk_Filler (ok_Filler_init T) hG (hr.mono (by decide)) (takes_of rfl rfl rfl rfl) rfl T.g_Filler (da_cons (de_var 1 (pv 1)) da_nil)) de_int)
  (dss_cons (ds_for (passes_of rfl) rfl (di_seq (ba := false) (de_var 0 (pv 0))) (dg_tup rfl (dgs_cons (dg_name 4 (pg_name hN rfl (by first | exact .inl rfl | exact .inr rfl))) (dgs_cons (dg_name 5 (pg_name hN rfl (by first | exact .inl rfl | exact .inr rfl))) dgs_nil)))
  (dss_cons (ds_setE 6 hN (dse_callM 2 6 T.n_Filler T.cl_Filler (ok_Filler_put T) T.me_Filler_put hG (hr.mono (by decide)) (takes_of rfl rfl rfl rfl) (pv 2) (da_cons (de_var 4 (pv 4)) (da_cons (de_var 5 (pv 5)) (da_cons (de_const (v := V.str "first") (pe_glob rfl T.g_FIRST ⟨_, rfl⟩) fun _ => .str _) da_nil)))))
    (dss_cons (ds_aug 3 hN ip_add (de_sub (de_var 5 (pv 5)) (de_var 6 (pv 6))))
    (dss_one (ds_if (dt_cmp op_gtD link_gt (nomark _) (de_var 6 (pv 6)) de_int)
    (dss_one ds_break)
    dss_nil)))))
  (dss_frz 2 (dss_one (ds_ret (de_tup (da_cons (de_meth0 T.n_Filler T.cl_Filler (ok_Filler_packing T) T.me_Filler_packing hG (hr.mono (by decide)) (takes_of rfl rfl rfl rfl) (de_var 2 (pv 2)) rfl) (da_cons (de_var 3 (pv 3)) da_nil))))))))))
abbrev N_is_taken : List Str := ["row", "store", "size", "many"]
theorem ok_is_taken (T : Txt K mg base) : FnD P w K mg base 9 T.f_is_taken c_is_taken := by
  have sc : FnScope N_is_taken ["row", "store"] (defScope s_is_taken) := ⟨rfl, rfl, rfl, by decide +kernel, rfl, by decide +kernel, by decide +kernel⟩
  have hN := sc.nd
  refine FnD.imp (fnD_of (m := b_is_taken) T.F_is_taken sc T.b_is_taken fun cdv A outer s H E hG hr => ?_) c_is_taken_ok
  exact (dss_one (ds_ret (de_cmp (op_eqD hr.units) link_eq (nomark _) (de_ix (fun _ _ => rfl) (de_call (ok_pack_row T) hG (hr.mono (by decide)) (takes_of rfl rfl rfl rfl) rfl T.m_pack_row T.k_pack_row (da_cons (de_var 0 (pv 0)) (da_cons (de_var 1 (pv 1)) da_nil))) de_int) (de_callB (cr_sum rfl) link_sum rfl T.z_sum bt_sum (da_cons (DE.up (DF.de (ba := false) (df_comp (own := [("size", 2), ("many", 3)]) rfl hN (di_seq (ba := true) (DE.up (de_var 0 (pv 0)))) (blkOk_by (N := N_is_taken) (sc := defScope s_is_taken) (by decide +kernel)) (fun _ _ _ _ _ => (dgw_tup rfl (dgws_cons (dgw_name 2 (pg_name hN rfl (by first | exact .inl rfl | exact .inr rfl))) (dgws_cons (dgw_name 3 (pg_name hN rfl (by first | exact .inl rfl | exact .inr rfl))) dgws_nil)))) (fun _ _ _ _ _ => dts_nil) (fun _ _ _ _ _ => (de_var 3 (pv 3)))))) da_nil)))))
abbrev N_lot_of : List Str := ["row", "counts", "size", "many"]
theorem ok_lot_of (T : Txt K mg base) : FnD P w K mg base 6 T.f_lot_of c_lot_of := by
  have sc : FnScope N_lot_of ["row"] (defScope s_lot_of) := ⟨rfl, rfl, rfl, by decide +kernel, rfl, by decide +kernel, by decide +kernel⟩
  have hN := sc.nd
  refine FnD.imp (fnD_of (m := b_lot_of) T.F_lot_of sc T.b_lot_of fun cdv A outer s H E hG hr => ?_) c_lot_of_ok
  exact (dss_cons (ds_expr (de_call (ok_require_row T) hG (hr.mono (by decide)) (takes_of rfl rfl rfl rfl) rfl T.m_require_row T.k_require_row (da_cons (de_var 0 (pv 0)) da_nil)))
  (dss_cons (ds_setm 1 hN df_dnew)
  (dss_cons (ds_for (passes_of rfl) rfl (di_seq (ba := false) (de_var 0 (pv 0))) (dg_tup rfl (dgs_cons (dg_name 2 (pg_name hN rfl (by first | exact .inl rfl | exact .inr rfl))) (dgs_cons (dg_name 3 (pg_name hN rfl (by first | exact .inl rfl | exact .inr rfl))) dgs_nil)))
  (dss_one (ds_put 1 (Nat.lt_of_le_of_lt (Nat.add_le_add_left (by decide : 1 ≤ 65) _) (units65 hr)) (pv 1) (de_var 2 (pv 2)) (de_add (de_dget2 (Nat.lt_of_le_of_lt (Nat.add_le_add_left (by decide : 1 ≤ 65) _) (units65 hr)) (de_mut 1 (pv 1)) (de_var 2 (pv 2)) de_int M2.of) (de_var 3 (pv 3))))))
  (dss_frz 1 (dss_one (ds_ret (DF.de (ba := false) (df_make T.n_Lot T.mk_Lot (ok_Lot_init T) hG (hr.mono (by decide)) (takes_of rfl rfl rfl rfl) rfl T.g_Lot (da_cons (de_var 1 (pv 1)) da_nil)))))))))
abbrev N_Lot_counts : List Str := ["self"]
theorem ok_Lot_counts (T : Txt K mg base) : FnD P w K mg base 1 T.f_Lot_counts c_Lot_counts := by
  have sc : FnScope N_Lot_counts ["self"] (defScope s_Lot_counts) := ⟨rfl, rfl, rfl, by decide +kernel, rfl, by decide +kernel, by decide +kernel⟩
  have hN := sc.nd
  refine FnD.imp (fnD_of (m := b_Lot_counts) T.F_Lot_counts sc T.b_Lot_counts fun cdv A outer s H E hG hr => ?_) c_Lot_counts_ok
  exact (dss_one (ds_ret (DF.de (ba := false) (df_callT call_copyY link_dictC rfl T.z_dict bt_dict (da_cons (DE.up (de_fld T.n_Lot T.cl_Lot T.no_Lot_own_counts (de_var 0 (pv 0)))) da_nil)))))
abbrev N_is_rule : List Str := ["value"]
theorem ok_is_rule (T : Txt K mg base) : FnD P w K mg base 1 T.f_is_rule c_is_rule := by
  have sc : FnScope N_is_rule ["value"] (defScope s_is_rule) := ⟨rfl, rfl, rfl, by decide +kernel, rfl, by decide +kernel, by decide +kernel⟩
  have hN := sc.nd
  refine FnD.imp (fnD_of (m := b_is_rule) T.F_is_rule sc T.b_is_rule fun cdv A outer s H E hG hr => ?_) c_is_rule_ok
  exact (dss_one (ds_ret (de_and (de_isiT T.kits T.kback (by decide) rfl T.z_isinstance (de_var 0 (pv 0)) rfl T.z_str bt_str) (de_one (de_cmp (op_inX (units65 hr)) link_inTS rfl (de_var 0 (pv 0)) (de_const (v := V.ref T.a_RULES) (pe_glob rfl T.g_RULES rfl) fun _ => rep_ct T.tk_RULES))))))
abbrev N_pack : List Str := ["lot", "store", "rule", "filler", "left", "size", "many", "rest"]
theorem ok_pack (T : Txt K mg base) : FnK P w K mg base 8 T.f_pack 2 ["rule"] c_pack := by
  have sc : FnScope N_pack ["lot", "store", "rule"] (defScope s_pack) := ⟨rfl, rfl, rfl, by decide +kernel, rfl, by decide +kernel, by decide +kernel⟩
  have hN := sc.nd
  refine FnK.imp (fnK_of (m := b_pack) (n := 2) (ks := ["rule"]) T.F_pack sc T.b_pack rfl fun cdv A outer s H E hG hr => ?_) c_pack_ok
  exact (dss_cons (ds_expr (de_call (ok_require_lot T) hG (hr.mono (by decide)) (takes_of rfl rfl rfl rfl) rfl T.m_require_lot T.k_require_lot (da_cons (de_var 0 (pv 0)) da_nil)))
  (dss_cons (ds_expr (de_call (ok_require_store T) hG (hr.mono (by decide)) (takes_of rfl rfl rfl rfl) rfl T.m_require_store T.k_require_store (da_cons (de_var 1 (pv 1)) da_nil)))
  (dss_cons (ds_if (dt_not (dt_val (de_call (ok_is_rule T) hG (hr.mono (by decide)) (takes_of rfl rfl rfl rfl) rfl T.m_is_rule T.k_is_rule (da_cons (de_var 2 (pv 2)) da_nil))))
  (dss_one (ds_raise0 PySem.F.excBase_ValueError T.xi_InvalidOperation T.n_InvalidOperation T.g_InvalidOperation T.kp_InvalidOperation T.sb_InvalidOperation T.ty_InvalidOperation rfl (takes_of rfl rfl rfl rfl) rfl))
  dss_nil)
  (dss_cons (ds_parmm 3 4 rfl hN (df_make T.n_Filler T.mk_Filler (ok_Filler_init T) hG (hr.mono (by decide)) (takes_of rfl rfl rfl rfl) rfl T.g_Filler (da_cons (de_var 1 (pv 1)) da_nil)) df_dnew)
  (dss_cons (ds_for (passes_of rfl) rfl (di_seq (ba := false) (de_rev (DF.de (ba := false) (df_listItems rfl (de_prop T.n_Lot T.cl_Lot T.pr_Lot_counts (ok_Lot_counts T) hG (hr.mono (by decide)) (de_var 0 (pv 0)) rfl) rfl T.z_list bt_list (by rfl))))) (dg_tup rfl (dgs_cons (dg_name 5 (pg_name hN rfl (by first | exact .inl rfl | exact .inr rfl))) (dgs_cons (dg_name 6 (pg_name hN rfl (by first | exact .inl rfl | exact .inr rfl))) dgs_nil)))
  (dss_cons (ds_setE 7 hN (dse_if 7 (dt_cmp (op_neY (units65 hr)) link_neY (nomark _) (de_mut 4 (pv 4)) (DF.de (ba := false) df_dnew)) (dse_of 7 (de_var 6 (pv 6))) (dse_callM 3 7 T.n_Filler T.cl_Filler (ok_Filler_put T) T.me_Filler_put hG (hr.mono (by decide)) (takes_of rfl rfl rfl rfl) (pv 3) (da_cons (de_var 5 (pv 5)) (da_cons (de_var 6 (pv 6)) (da_cons (de_var 2 (pv 2)) da_nil))))))
    (dss_one (ds_if (dt_cmp op_gtD link_gt (nomark _) (de_var 7 (pv 7)) de_int)
    (dss_one (ds_put 4 (Nat.lt_of_le_of_lt (Nat.add_le_add_left (by decide : 1 ≤ 65) _) (units65 hr)) (pv 4) (de_var 5 (pv 5)) (de_var 7 (pv 7))))
    dss_nil))))
  (dss_frz 3 (dss_frz 4 (dss_one (ds_ret (de_tup (da_cons (de_meth0 T.n_Filler T.cl_Filler (ok_Filler_packing T) T.me_Filler_packing hG (hr.mono (by decide)) (takes_of rfl rfl rfl rfl) (de_var 3 (pv 3)) rfl) (da_cons (DF.de (ba := false) (df_make T.n_Lot T.mk_Lot (ok_Lot_init T) hG (hr.mono (by decide)) (takes_of rfl rfl rfl rfl) rfl T.g_Lot (da_cons (de_var 4 (pv 4)) da_nil))) da_nil))))))))))))
/-! the roll -/
theorem ok_law_roll (T : Txt K mg base) : FnD P w K mg base 1 T.f_law_roll mRoll := by
  have sc : FnScope ["dice", "total", "found", "one", "two"] ["dice", "total"] (defScope s_law_roll) := ⟨rfl, rfl, rfl, by decide +kernel, rfl, by decide +kernel, by decide +kernel⟩
  have hN := sc.nd
  refine fnP_of T.F_law_roll sc (sb := spD K mRoll) (fun s us vs H Q E hK r h => ?_) fun cdv A outer s H vs Q E hG hr h => ?_
  · obtain ⟨fo, ds, PP, EK, ht, tb, rs, ⟨n, rfl, hm⟩, q⟩ := id h
    have e : us.length = 2 := by rw [← r.length, rs.length]; rfl
    have b := T.b_law_roll s us hK (by rw [List.append_nil]; exact e)
    rw [List.append_nil] at b
    exact ⟨vs, us, r, by rw [rs.length]; rfl, b, h⟩
  obtain ⟨fo, ds, PP, EK, ht, tb, rs, hm, hq, he⟩ := h
  obtain ⟨n, rfl, h0, h1, hroll⟩ := hm
  obtain ⟨a, rfl, hd⟩ : ∃ a, vs = [.ref a, .int n] ∧ H a = some (diceO a) := by
    cases rs with
    | cons r1 rs => cases rs with
      | cons r2 rs =>
        cases rs
        cases r2
        cases r1 with
        | dice h => exact ⟨_, rfl, sub_le _ _ h⟩
  refine ⟨_, pss_dice (pss_cons (ps_if (pt_cmpR op_gt (pe_ix ix_list (pv 0) pe_int (fun _ _ => rfl)) pe_int (nomark _))
      (pss_cons (ps_set (i := 2) hN rfl (.inl rfl) (pe_op op_mod (pe_callTy call_int1 rfl T.z_int bt_int (pa_cons (pe_ix ix_list (pv 0) pe_int (fun _ _ => rfl)) pa_nil)) (pv 1)))
      (pss_cons (ps_asg (pe_op op_fdiv (pe_ix ix_list (pv 0) pe_int (fun _ _ => rfl)) (pv 1)) (pg_sub (pv 0) pe_int set_list))
      (pss_one (ps_ret (pv 2))))) pss_nil)
    (pss_cons (ps_asg (pe_op op_add (pe_ix ix_list (pv 0) pe_int (fun _ _ => rfl)) pe_int) (pg_sub (pv 0) pe_int set_list))
    (pss_cons (ps_set (i := 3) hN rfl (.inl rfl) (pe_op op_mod (pe_callTy call_int1 rfl T.z_int bt_int (pa_cons (pe_op op_add (pe_ix ix_list (pv 0) pe_int (fun _ _ => rfl)) (pe_op op_mul pe_int (pe_ix ix_list (pv 0) pe_int (fun _ _ => rfl)))) pa_nil)) pe_int))
    (pss_cons (ps_set (i := 4) hN rfl (.inl rfl) (pe_op op_add (pe_op op_mul (pe_op op_mod (pe_callTy call_int1 rfl T.z_int bt_int (pa_cons (pe_op op_add (pe_op op_mul (pv 3) (pv 3)) (pe_op op_mul pe_int (pe_ix ix_list (pv 0) pe_int (fun _ _ => rfl)))) pa_nil)) pe_int) pe_int) (pv 3)))
    (pss_one (ps_ret (pe_op op_mod (pe_callTy call_int1 rfl T.z_int bt_int (pa_cons (pe_op op_fdiv (pv 4) pe_int) pa_nil)) (pv 1)))))))), ?_⟩
  refine ⟨a, hd, fun i j k => ?_⟩
  have back : ∀ (xs : List V) (b : Addr), upd (upd H a (.lst xs)) a (diceO a) b = H b := fun xs b => by
    by_cases e : b = a
    · rw [e, upd_same, hd]
    · rw [upd_ne e, upd_ne e]
  have fin : ∀ (r : Int) (H' : Hp) (xs : List V), H' = upd H a (.lst xs) → 0 ≤ r → r < n → Q (.int r) (upd H' a (diceO a)) := fun r H' xs e q0 q1 => by
    subst e
    exact hq (.int r) (.int r) _ (hroll r q0 q1) (Same.of fun b o z => by rw [back]; exact z) (.int r)
  have lx : ∀ {xs : List V} {H0 : Hp}, SqL K (upd H0 a (.lst xs)) a xs := fun {xs H0} => .of upd_same
  refine ⟨_, rfl, a, [.int i, .int j, .int k], 0, .int i, rfl, rfl, lx, rfl, i, 0, rfl, rfl, _, rfl, ?_⟩
  refine ite2 (fun hi => ?_) fun hi => ?_
  · refine ⟨_, rfl, a, _, 0, .int i, rfl, rfl, lx, rfl, .inl ⟨i, rfl, _, rfl, i, n, rfl, rfl, h0, ?_⟩⟩
    refine ⟨_, rfl, a, _, 0, .int i, rfl, rfl, lx, rfl, _, rfl, i, n, rfl, rfl, ⟨h0, h1⟩, _, rfl, a, _, 0, 0, rfl, rfl, upd_same, rfl, _, rfl, ?_⟩
    refine ⟨_, _, _, upd_same, fin _ _ _ upd_upd (Int.emod_nonneg _ (by omega)) (Int.emod_lt_of_pos _ h0)⟩
  · refine ⟨_, rfl, a, _, 2, .int k, rfl, rfl, lx, rfl, k, 1, rfl, rfl, _, rfl, a, _, 2, 2, rfl, rfl, upd_same, rfl, ?_⟩
    refine ⟨_, rfl, a, [.int i, .int j, .int (k + 1)], 1, .int j, rfl, rfl, lx, rfl, _, rfl, a, [.int i, .int j, .int (k + 1)], 2, .int (k + 1), rfl, rfl, lx, rfl, _, _, rfl, rfl, .inl ⟨by decide, by decide⟩, _, _, rfl, rfl, .inl ⟨_, rfl, _, _, rfl, rfl, (by show (0 : Int) < _; decide), ?_⟩⟩
    have b1 := Int.emod_nonneg (j + 67867967 * (k + 1)) (show (2305843009213693723 : Int) ≠ 0 by decide)
    have b2 := Int.emod_lt_of_pos (j + 67867967 * (k + 1)) (show (0 : Int) < 2305843009213693723 by decide)
    refine ⟨_, rfl, _, rfl, _, _, rfl, rfl, .inl ⟨by omega, by omega⟩, _, rfl, a, [.int i, .int j, .int (k + 1)], 2, .int (k + 1), rfl, rfl, lx, rfl, _, _, rfl, rfl, .inl ⟨by decide, by decide⟩, _, _, rfl, rfl, .inl ⟨_, rfl, _, _, rfl, rfl, (by show (0 : Int) < _; decide), ?_⟩⟩
    refine ⟨_, _, rfl, rfl, .inr ⟨by decide, by decide⟩, _, rfl, _, _, rfl, rfl, ?_⟩
    refine ⟨_, rfl, _, _, rfl, rfl, ⟨by decide, by decide⟩, .inl ⟨_, rfl, _, rfl, _, _, rfl, rfl, h0, ?_⟩⟩
    exact ⟨_, _, _, upd_same, fin _ _ _ upd_upd (Int.emod_nonneg _ (by omega)) (Int.emod_lt_of_pos _ h0)⟩
abbrev N_law_pick : List Str := ["dice", "items"]
theorem ok_law_pick (T : Txt K mg base) : FnD P w K mg base 2 T.f_law_pick c_law_pick := by
  have sc : FnScope N_law_pick ["dice", "items"] (defScope s_law_pick) := ⟨rfl, rfl, rfl, by decide +kernel, rfl, by decide +kernel, by decide +kernel⟩
  have hN := sc.nd
  refine FnD.imp (fnD_of (m := b_law_pick) T.F_law_pick sc T.b_law_pick fun cdv A outer s H E hG hr => ?_) c_law_pick_ok
  exact (dss_one (ds_ret (de_ix (fun _ _ => rfl) (de_var 1 (pv 1)) (de_call (ok_law_roll T) hG (hr.mono (by decide)) (takes_of rfl rfl rfl rfl) rfl T.m_law_roll T.k_law_roll (da_cons (de_var 0 (pv 0)) (da_cons (de_callB call_len link_len rfl T.z_len bt_len (da_cons (DE.up (de_var 1 (pv 1))) da_nil)) da_nil))))))
abbrev N_law_word : List Str := ["call"]
theorem ok_law_word (T : Txt K mg base) : FnT P w K mg base 9 11 T.f_law_word m_law_word := by
  have sc : FnScope N_law_word ["call"] (defScope s_law_word) := ⟨rfl, rfl, rfl, by decide +kernel, rfl, by decide +kernel, by decide +kernel⟩
  have hN := sc.nd
  refine (fnT_of (m := b_law_word) T.F_law_word sc T.b_law_word fun cdv A outer s H E f Hc tl hG hr hT => ?_)
  exact (dss_cons (ds_try rfl rfl (takes_of rfl rfl rfl rfl) (fun W1 pn1 xe1 tk1 ps1 => (dss_one (ds_expr (hT (i := 0) (a := "call") rfl (.inl rfl) rfl rfl hr tk1)))) (dhs_cons T.isa T.n_InvalidLot T.g_InvalidLot (by decide) rfl (fun a oe pn => (dss_one (ds_ret de_str))) (dhs_cons T.isa T.n_InvalidStore T.g_InvalidStore (by decide) rfl (fun a oe pn => (dss_one (ds_ret de_str))) (dhs_cons T.isa T.n_InvalidOperation T.g_InvalidOperation (by decide) rfl (fun a oe pn => (dss_one (ds_ret de_str))) (dhs_nil rfl)))) (by simp))
  (dss_one (ds_ret de_str)))
abbrev N_law_right : List Str := ["dice", "fine", "rooms", "lot", "store", "rule", "bad", "row", "told", "due", "call"]
theorem ok_law_right (T : Txt K mg base) : FnD P w K mg base 12 T.f_law_right c_law_right := by
  have sc : FnScope N_law_right ["dice", "fine", "rooms"] (defScope s_law_right) := ⟨rfl, rfl, rfl, by decide +kernel, rfl, by decide +kernel, by decide +kernel⟩
  have hN := sc.nd
  refine FnD.imp (fnD_ofC (m := b_law_right) T.F_law_right T.cd_law_right sc T.b_law_right fun A outer s H E hG hr => ?_) c_law_right_ok
  exact (dss_cons (ds_set 3 hN (de_call (ok_law_pick T) hG (hr.mono (by decide)) (takes_of rfl rfl rfl rfl) rfl T.m_law_pick T.k_law_pick (da_cons (de_var 0 (pv 0)) (da_cons (DF.de (ba := false) (df_lst (da_cons de_none (da_cons de_int (da_cons (DF.de (ba := false) df_dnew) (da_cons (DF.de (ba := false) (df_disp (dps_cons de_int de_int dps_nil) (by rfl) (by rfl) (by intro z; cases z) (by decide))) (da_cons (de_tup da_nil) (da_cons (de_var 2 (pv 2)) (da_cons de_str (da_cons (de_tup (da_cons (de_tup (da_cons de_int (da_cons de_int da_nil))) da_nil)) da_nil)))))))))) da_nil))))
  (dss_cons (ds_set 4 hN (de_call (ok_law_pick T) hG (hr.mono (by decide)) (takes_of rfl rfl rfl rfl) rfl T.m_law_pick T.k_law_pick (da_cons (de_var 0 (pv 0)) (da_cons (DF.de (ba := false) (df_lst (da_cons de_none (da_cons de_int (da_cons (de_tup da_nil) (da_cons (de_tup (da_cons (de_tup (da_cons de_int (da_cons de_int da_nil))) da_nil)) (da_cons (de_var 1 (pv 1)) (da_cons de_str (da_cons (DF.de (ba := false) df_dnew) da_nil))))))))) da_nil))))
  (dss_cons (ds_set 5 hN (de_call (ok_law_pick T) hG (hr.mono (by decide)) (takes_of rfl rfl rfl rfl) rfl T.m_law_pick T.k_law_pick (da_cons (de_var 0 (pv 0)) (da_cons (DF.de (ba := false) (df_lst (da_cons de_none (da_cons de_int (da_cons de_str (da_cons de_str (da_cons de_str (da_cons (de_tup (da_cons de_str da_nil)) (da_cons (DF.de (ba := false) (df_lst (da_cons de_str da_nil))) (da_cons (DF.de (ba := false) df_dnew) (da_cons de_bool da_nil))))))))))) da_nil))))
  (dss_cons (ds_set 6 hN (DF.de (ba := false) (df_lst (da_cons de_none (da_cons de_int (da_cons (DF.de (ba := false) (df_lst da_nil)) (da_cons (DF.de (ba := false) (df_lst (da_cons (de_tup (da_cons de_int (da_cons de_int da_nil))) da_nil))) (da_cons (de_tup (da_cons de_int (da_cons de_int da_nil))) (da_cons (de_tup (da_cons (de_tup (da_cons de_int da_nil)) da_nil)) (da_cons (de_tup (da_cons (de_tup (da_cons de_int (da_cons de_int da_nil))) da_nil)) (da_cons (de_tup (da_cons (de_tup (da_cons de_int (da_cons de_int da_nil))) da_nil)) (da_cons (de_tup (da_cons (de_tup (da_cons de_bool (da_cons de_int da_nil))) da_nil)) (da_cons (de_tup (da_cons (de_tup (da_cons de_int (da_cons de_bool da_nil))) da_nil)) (da_cons (de_tup (da_cons (de_tup (da_cons de_int (da_cons de_int da_nil))) (da_cons de_none da_nil))) (da_cons de_str (da_cons (DF.de (ba := false) df_dnew) da_nil))))))))))))))))
  (dss_cons (ds_set 7 hN (de_call (ok_law_pick T) hG (hr.mono (by decide)) (takes_of rfl rfl rfl rfl) rfl T.m_law_pick T.k_law_pick (da_cons (de_var 0 (pv 0)) (da_cons (de_add (de_var 6 (pv 6)) (DF.de (ba := false) (df_lst (da_cons (de_tup (da_cons (de_tup (da_cons de_int (da_cons de_int (da_cons de_int da_nil)))) da_nil)) (da_cons (de_tup (da_cons (DF.de (ba := false) (df_lst (da_cons de_int (da_cons de_int da_nil)))) da_nil)) (da_cons (de_tup (da_cons (de_tup (da_cons de_str (da_cons de_int da_nil))) da_nil)) (da_cons (de_tup (da_cons (de_tup (da_cons de_int (da_cons (de_neg de_int) da_nil))) da_nil)) da_nil))))))) da_nil))))
  (dss_cons (ds_setm 8 hN (df_lst (da_cons (de_thunk (ok_law_word T) hG (hr.mono (by decide)) (takes_of rfl rfl rfl rfl) rfl T.m_law_word T.k_law_word T.tb_law_right rfl T.tm_law_right T.tu_law_right (LamX.lamS_by (sc := defScope s_law_right) (by decide +kernel)) (fun _ _ _ _ _ _ _ hG hr => (de_callKl (ok_pack T) hG (hr.mono (by decide)) (takes_of rfl rfl rfl rfl) rfl T.m_pack T.k_pack (da_cons (de_var 3 (pv 3)) (da_cons (de_var 4 (pv 4)) da_nil)) (dk_cons (de_var 5 (pv 5)) dk_nil)))) da_nil)))
  (dss_cons (ds_app 8 (pv 8) (de_thunk (ok_law_word T) hG (hr.mono (by decide)) (takes_of rfl rfl rfl rfl) rfl T.m_law_word T.k_law_word T.tb_law_right rfl T.tm_law_right T.tu_law_right (LamX.lamS_by (sc := defScope s_law_right) (by decide +kernel)) (fun _ _ _ _ _ _ _ hG hr => (de_callKl (ok_pack T) hG (hr.mono (by decide)) (takes_of rfl rfl rfl rfl) rfl T.m_pack T.k_pack (da_cons (de_var 1 (pv 1)) (da_cons (de_var 4 (pv 4)) da_nil)) (dk_cons (de_var 5 (pv 5)) dk_nil)))))
  (dss_cons (ds_app 8 (pv 8) (de_thunk (ok_law_word T) hG (hr.mono (by decide)) (takes_of rfl rfl rfl rfl) rfl T.m_law_word T.k_law_word T.tb_law_right rfl T.tm_law_right T.tu_law_right (LamX.lamS_by (sc := defScope s_law_right) (by decide +kernel)) (fun _ _ _ _ _ _ _ hG hr => (de_callKl (ok_pack T) hG (hr.mono (by decide)) (takes_of rfl rfl rfl rfl) rfl T.m_pack T.k_pack (da_cons (de_var 1 (pv 1)) (da_cons (de_var 2 (pv 2)) da_nil)) (dk_cons (de_var 5 (pv 5)) dk_nil)))))
  (dss_cons (ds_app 8 (pv 8) (de_thunk (ok_law_word T) hG (hr.mono (by decide)) (takes_of rfl rfl rfl rfl) rfl T.m_law_word T.k_law_word T.tb_law_right rfl T.tm_law_right T.tu_law_right (LamX.lamS_by (sc := defScope s_law_right) (by decide +kernel)) (fun _ _ _ _ _ _ _ hG hr => (de_call (ok_is_greedy T) hG (hr.mono (by decide)) (takes_of rfl rfl rfl rfl) rfl T.m_is_greedy T.k_is_greedy (da_cons (de_var 3 (pv 3)) (da_cons (de_var 4 (pv 4)) (da_cons de_none da_nil)))))))
  (dss_cons (ds_app 8 (pv 8) (de_thunk (ok_law_word T) hG (hr.mono (by decide)) (takes_of rfl rfl rfl rfl) rfl T.m_law_word T.k_law_word T.tb_law_right rfl T.tm_law_right T.tu_law_right (LamX.lamS_by (sc := defScope s_law_right) (by decide +kernel)) (fun _ _ _ _ _ _ _ hG hr => (de_call (ok_is_greedy T) hG (hr.mono (by decide)) (takes_of rfl rfl rfl rfl) rfl T.m_is_greedy T.k_is_greedy (da_cons (de_var 1 (pv 1)) (da_cons (de_var 4 (pv 4)) (da_cons de_none da_nil)))))))
  (dss_cons (ds_set 9 hN (DF.de (ba := false) (df_lst (da_cons de_str (da_cons de_str (da_cons de_str (da_cons de_str (da_cons de_str da_nil))))))))
  (dss_cons (ds_for (passes_of rfl) rfl (di_seq (ba := false) (de_tup (da_cons (de_const (v := V.ref T.f_pack_row) (pe_glob rfl T.m_pack_row rfl) fun _ => .fn T.nn_pack_row) (da_cons (de_const (v := V.ref T.f_is_taken) (pe_glob rfl T.m_is_taken rfl) fun _ => .fn T.nn_is_taken) da_nil)))) (dg_name 10 (pg_name hN rfl (by first | exact .inl rfl | exact .inr rfl)))
  (dss_cons (ds_app 8 (pv 8) (de_thunk (ok_law_word T) hG (hr.mono (by decide)) (takes_of rfl rfl rfl rfl) rfl T.m_law_word T.k_law_word T.tb_law_right rfl T.tm_law_right T.tu_law_right (LamX.lamS_by (sc := defScope s_law_right) (by decide +kernel)) (fun _ _ _ _ _ _ _ hG hr => (de_callFn (k := 9) 10 (fun q h => by simp only [List.mem_cons, List.not_mem_nil, or_false] at h; rcases h with rfl | rfl <;> first | exact ⟨T.f_pack_row, T.nn_pack_row, T.k_pack_row, (ok_pack_row T).mono (by decide)⟩ | exact ⟨T.f_is_taken, T.nn_is_taken, T.k_is_taken, (ok_is_taken T).mono (by decide)⟩) hG (hr.mono (by decide)) (takes_of rfl rfl rfl rfl) (pv 10) (da_cons (de_var 7 (pv 7)) (da_cons (de_var 4 (pv 4)) da_nil))))))
    (dss_cons (ds_app 8 (pv 8) (de_thunk (ok_law_word T) hG (hr.mono (by decide)) (takes_of rfl rfl rfl rfl) rfl T.m_law_word T.k_law_word T.tb_law_right rfl T.tm_law_right T.tu_law_right (LamX.lamS_by (sc := defScope s_law_right) (by decide +kernel)) (fun _ _ _ _ _ _ _ hG hr => (de_callFn (k := 9) 10 (fun q h => by simp only [List.mem_cons, List.not_mem_nil, or_false] at h; rcases h with rfl | rfl <;> first | exact ⟨T.f_pack_row, T.nn_pack_row, T.k_pack_row, (ok_pack_row T).mono (by decide)⟩ | exact ⟨T.f_is_taken, T.nn_is_taken, T.k_is_taken, (ok_is_taken T).mono (by decide)⟩) hG (hr.mono (by decide)) (takes_of rfl rfl rfl rfl) (pv 10) (da_cons (de_tup (da_cons (de_tup (da_cons de_int (da_cons de_int da_nil))) da_nil)) (da_cons (de_var 4 (pv 4)) da_nil))))))
    (dss_one (ds_set 9 hN (de_add (de_var 9 (pv 9)) (DF.de (ba := false) (df_lst (da_cons de_str (da_cons de_str da_nil))))))))))
  (dss_cons (ds_app 8 (pv 8) (de_thunk (ok_law_word T) hG (hr.mono (by decide)) (takes_of rfl rfl rfl rfl) rfl T.m_law_word T.k_law_word T.tb_law_right rfl T.tm_law_right T.tu_law_right (LamX.lamS_by (sc := defScope s_law_right) (by decide +kernel)) (fun _ _ _ _ _ _ _ hG hr => (de_call (ok_lot_of T) hG (hr.mono (by decide)) (takes_of rfl rfl rfl rfl) rfl T.ml_lot_of_rules T.k_lot_of (da_cons (de_var 7 (pv 7)) da_nil)))))
  (dss_frz 8 (dss_one (ds_ret (de_and (de_cmp (op_eqD hr.units) link_eq (nomark _) (de_var 8 (pv 8)) (de_add (de_var 9 (pv 9)) (DF.de (ba := false) (df_lst (da_cons de_str da_nil))))) (de_one (de_cmp op_isBl link_isB (nomark _) (de_call (ok_is_row T) hG (hr.mono (by decide)) (takes_of rfl rfl rfl rfl) rfl T.m_is_row T.k_is_row (da_cons (de_var 7 (pv 7)) da_nil)) de_bool)))))))))))))))))))
abbrev N_law : List Str := ["script", "fine", "rooms", "spot", "dice", "turn", "long", "wide", "size", "told"]
theorem ok_law (T : Txt K mg base) : FnD P w K mg base 13 T.f_law m_law := by
  have sc : FnScope N_law ["script"] (defScope s_law) := ⟨rfl, rfl, rfl, by decide +kernel, rfl, by decide +kernel, by decide +kernel⟩
  have hN := sc.nd
  refine (fnD_of (m := b_law) T.F_law sc T.b_law fun cdv A outer s H E hG hr => ?_)
  exact (dss_cons (ds_par 1 2 rfl hN (da_cons (DF.de (ba := false) (df_make T.n_Lot T.mk_Lot (ok_Lot_init T) hG (hr.mono (by decide)) (takes_of rfl rfl rfl rfl) rfl T.g_Lot (da_cons (DF.de (ba := false) (df_disp (dps_cons de_int de_int (dps_cons de_int de_int dps_nil)) (by rfl) (by rfl) (by intro z; cases z) (by decide))) da_nil))) (da_cons (DF.de (ba := false) (df_make T.n_Store T.mk_Store (ok_Store_init T) hG (hr.mono (by decide)) (takes_of rfl rfl rfl rfl) rfl T.g_Store (da_cons (de_tup (da_cons de_int (da_cons de_int da_nil))) da_nil))) da_nil)))
  (dss_cons (ds_for (passes_of rfl) rfl (di_range1 (ba := false) rfl T.z_range (da_cons (DE.up (de_callB (call_max2 rfl) link_max2 rfl T.z_max bt_max (da_cons (DE.up de_int) (da_cons (DE.up (de_callB (call_min2 rfl) link_min2 rfl T.z_min bt_min (da_cons (DE.up de_int) (da_cons (DE.up (de_callB call_len link_len rfl T.z_len bt_len (da_cons (DE.up (de_var 0 (pv 0))) da_nil))) da_nil)))) da_nil)))) da_nil)) (dg_name 3 (pg_name hN rfl (by first | exact .inl rfl | exact .inr rfl)))
  (dss_cons (ds_set 4 hN (de_call (ok_law_dice T) hG (hr.mono (by decide)) (takes_of rfl rfl rfl rfl) rfl T.m_law_dice T.k_law_dice (da_cons (de_var 0 (pv 0)) (da_cons (de_var 3 (pv 3)) da_nil))))
    (dss_one (ds_for (passes_of rfl) rfl (di_range1 (ba := false) rfl T.z_range (da_cons (DE.up de_int) da_nil)) (dg_name 5 (pg_name hN rfl (by first | exact .inl rfl | exact .inr rfl)))
    (dss_one (ds_if (dt_not (dt_val (de_call (ok_law_right T) hG (hr.mono (by decide)) (takes_of rfl rfl rfl rfl) rfl T.m_law_right T.k_law_right (da_cons (de_var 4 (pv 4)) (da_cons (de_var 1 (pv 1)) (da_cons (de_var 2 (pv 2)) da_nil))))))
      (dss_one (ds_ret de_bool))
      dss_nil))))))
  (dss_cons (ds_par 6 7 rfl hN (da_cons (de_repU (de_tup (da_cons (de_tup (da_cons de_int (da_cons de_int da_nil))) (da_cons (de_tup (da_cons de_int (da_cons de_int da_nil))) da_nil))) de_int) (da_cons (de_callT call_tuple_of link_tuple rfl T.z_tuple bt_tuple (da_cons (DE.up (DF.de (ba := false) (df_comp (own := [("size", 8)]) rfl hN (di_range2 (ba := true) rfl T.z_range (da_cons (DE.up de_int) (da_cons (DE.up de_int) da_nil))) (blkOk_by (N := N_law) (sc := defScope s_law) (by decide +kernel)) (fun _ _ _ _ _ => (dgw_name 8 (pg_name hN rfl (by first | exact .inl rfl | exact .inr rfl)))) (fun _ _ _ _ _ => dts_nil) (fun _ _ _ _ _ => (de_tup (da_cons (de_var 8 (pv 8)) (da_cons de_int da_nil))))))) da_nil)) da_nil)))
  (dss_cons (ds_set 9 hN (DF.de (ba := false) (df_lst (da_cons (de_call (ok_is_row T) hG (hr.mono (by decide)) (takes_of rfl rfl rfl rfl) rfl T.m_is_row T.k_is_row (da_cons (de_var 6 (pv 6)) da_nil)) (da_cons (de_call (ok_is_row T) hG (hr.mono (by decide)) (takes_of rfl rfl rfl rfl) rfl T.m_is_row T.k_is_row (da_cons (de_add (de_var 6 (pv 6)) (de_tup (da_cons (de_tup (da_cons de_int (da_cons de_int da_nil))) da_nil))) da_nil)) (da_cons (de_call (ok_is_row T) hG (hr.mono (by decide)) (takes_of rfl rfl rfl rfl) rfl T.m_is_row T.k_is_row (da_cons (de_repU (de_var 7 (pv 7)) de_int) da_nil)) (da_cons (de_call (ok_is_row T) hG (hr.mono (by decide)) (takes_of rfl rfl rfl rfl) rfl T.m_is_row T.k_is_row (da_cons (de_add (de_var 7 (pv 7)) (de_tup (da_cons (de_tup (da_cons de_int (da_cons de_int da_nil))) da_nil))) da_nil)) (da_cons (de_const (v := V.int 200) (pe_glob rfl T.g_MAX_ROW ⟨_, rfl⟩) fun _ => .int _) da_nil))))))))
  (dss_one (ds_ret (de_and (de_cmp (op_eqD hr.units) link_eq (nomark _) (de_var 9 (pv 9)) (DF.de (ba := false) (df_lst (da_cons de_bool (da_cons de_bool (da_cons de_bool (da_cons de_bool (da_cons de_int da_nil)))))))) (de_one (de_cmp (op_eqD hr.units) link_eq (nomark _) (de_ix (fun _ _ => rfl) (de_call (ok_pack_row T) hG (hr.mono (by decide)) (takes_of rfl rfl rfl rfl) rfl T.m_pack_row T.k_pack_row (da_cons (de_tup da_nil) (da_cons (de_var 2 (pv 2)) da_nil))) de_int) de_int)))))))))
end
end DL.Law
set_option Elab.async false
set_option linter.all false
set_option maxRecDepth 100000
set_option maxHeartbeats 4000000
namespace DL.Law
open DL
open PySem PySem.Spec PyProof.Rows L2
theorem all_mk {q : Program} {l : PySem.W.OpenLaw} {w : World} {K : PySem.W.Frag} {h : Heap} {mg : Str → Option Value} {fa CPacking QPacking CCounted CFiller CLot CRow CStore CInvalidLot CInvalidOperation CInvalidPacking CInvalidStore f0 f1 f2 f3 dT3 f4 f5 f6 f7 f8 f9 f10 f11 p11 f12 f13 f14 f15 f16 f17 f18 f19 f20 f21 f22 f23 f24 f25 f26 f27 f28 f29 f30 f31 p31 f32 f33 f34 f35 f36 f37 cc37 tP37 f38 aRULES : Addr} (X : K.In h) (G : h.Ns mainGlobals mg) (hfa : mg "law" = some (.ref fa))
    {od0 an0 od1 an1 od2 an2 od3 an3 od4 an4 od5 an5 od6 an6 od7 an7 od8 an8 od9 an9 od10 an10 od11 an11 od12 an12 od13 an13 od14 an14 od15 an15 od16 an16 od17 an17 od18 an18 od19 an19 od20 an20 od21 an21 od22 an22 od23 an23 od24 an24 od25 an25 od26 an26 od27 an27 od28 an28 od29 an29 od30 an30 od31 an31 od32 an32 od33 an33 od34 an34 od35 an35 od36 an36 od37 an37 td37 od38 an38 : Option Addr} {sl0 sl1 sl2 sl3 sl4 sl5 sl6 sl7 sl8 sl9 sl10 sl11 sl12 sl13 sl14 sl15 sl16 sl17 sl18 sl19 sl20 sl21 sl22 sl23 sl24 sl25 sl26 sl27 sl28 sl29 sl30 sl31 sl32 sl33 sl34 sl35 sl36 sl37 tl37 sl38 : Array (Option Value)} {oc0 kV0 dc0 pm0 cd0 ct0 oc1 kV1 dc1 pm1 cd1 ct1 oc2 kV2 dc2 pm2 cd2 ct2 oc3 kV3 dc3 pm3 cd3 ct3 oc4 kV4 dc4 pm4 cd4 ct4 oc5 kV5 dc5 pm5 cd5 ct5 oc6 kV6 dc6 pm6 cd6 ct6 oc7 kV7 dc7 pm7 cd7 ct7 oc8 kV8 dc8 pm8 cd8 ct8 oc9 kV9 dc9 pm9 cd9 ct9 oc10 kV10 dc10 pm10 cd10 ct10 oc11 kV11 dc11 pm11 cd11 ct11 oc12 kV12 dc12 pm12 cd12 ct12 oc13 kV13 dc13 pm13 cd13 ct13 oc14 kV14 dc14 pm14 cd14 ct14 oc15 kV15 dc15 pm15 cd15 ct15 oc16 kV16 dc16 pm16 cd16 ct16 oc17 kV17 dc17 pm17 cd17 ct17 oc18 kV18 dc18 pm18 cd18 ct18 oc19 kV19 dc19 pm19 cd19 ct19 oc20 kV20 dc20 pm20 cd20 ct20 oc21 kV21 dc21 pm21 cd21 ct21 oc22 kV22 dc22 pm22 cd22 ct22 oc23 kV23 dc23 pm23 cd23 ct23 oc24 kV24 dc24 pm24 cd24 ct24 oc25 kV25 dc25 pm25 cd25 ct25 oc26 kV26 dc26 pm26 cd26 ct26 oc27 kV27 dc27 pm27 cd27 ct27 oc28 kV28 dc28 pm28 cd28 ct28 oc29 kV29 dc29 pm29 cd29 ct29 oc30 kV30 dc30 pm30 cd30 ct30 oc31 kV31 dc31 pm31 cd31 ct31 oc32 kV32 dc32 pm32 cd32 ct32 oc33 kV33 dc33 pm33 cd33 ct33 oc34 kV34 dc34 pm34 cd34 ct34 oc35 kV35 dc35 pm35 cd35 ct35 oc36 kV36 dc36 pm36 cd36 ct36 oc37 kV37 dc37 pm37 ct37 te37 oc38 kV38 dc38 pm38 cd38 ct38 : Value} {t_FIRST t_LAST t_LIMIT t_MAX_ROW t_MAX_RUNS_packings t_MAX_RUNS_stores t_MAX_SIZES_lots t_MAX_SIZES_packings t_MAX_SIZES_rules t_MAX_STORE t_TIGHTEST : Tok} {td3 : Option Addr} {tc3 : Value} {tn3 : Nat} {ts3 : Array (Option Value)} {rs11 : List Value} {rs31 : List Value} {tv37 : Array Value}
    (n_Packing : PySem.W.nsIn K mainGlobals "Packing" = some (some (.ref CPacking)))
    (s1_Packing : PySem.W.plainGet K CPacking Str.empty = true)
    (s2_Packing : PySem.W.isClsIn K CPacking = true)
    (s3_Packing : PySem.W.plainOver K CPacking = true)
    (s4_Packing : PySem.W.findIn K (.ref CPacking) "__setattr__" = some (some (.builtin "object.__setattr__")))
    (t1_Packing : PySem.W.findIn K (.ref CPacking) "own_runs" = some (some (.ref QPacking)))
    (t2_Packing : PySem.W.specialIn K (.ref QPacking) "__get__" = some (some (.builtin "member_descriptor.__get__")))
    (t3_Packing : PySem.W.takesIn K (.ref QPacking) = some true)
    (t4_Packing : PySem.W.typeIn K (.ref QPacking) = some (.type "member_descriptor"))
    (t5_Packing : PySem.W.slotIn K QPacking CPacking = some 0)
    (u1_Packing : PySem.W.findIn K (.ref CPacking) "__class__" = some (some (.builtin "object.__class__")))
    (u2_Packing : PySem.W.specialIn K (.builtin "object.__class__") "__get__" = some (some (.builtin "getset_descriptor.__get__")))
    (u3_Packing : PySem.W.takesIn K (.builtin "object.__class__") = some true)
    (u4_Packing : PySem.W.mroIn K CPacking (.type "object") = some true)
    (n_Counted : PySem.W.nsIn K mainGlobals "Counted" = some (some (.ref CCounted)))
    (ct_Counted : insTyB K CCounted = true)
    (ki_Counted : kitAll K CCounted = true)
    (n_Filler : PySem.W.nsIn K mainGlobals "Filler" = some (some (.ref CFiller)))
    (ct_Filler : insTyB K CFiller = true)
    (n_Lot : PySem.W.nsIn K mainGlobals "Lot" = some (some (.ref CLot)))
    (ct_Lot : insTyB K CLot = true)
    (ki_Lot : kitAll K CLot = true)
    (n_Row : PySem.W.nsIn K mainGlobals "Row" = some (some (.ref CRow)))
    (ct_Row : insTyB K CRow = true)
    (ki_Row : kitAll K CRow = true)
    (n_Store : PySem.W.nsIn K mainGlobals "Store" = some (some (.ref CStore)))
    (ct_Store : insTyB K CStore = true)
    (ki_Store : kitAll K CStore = true)
    (kk2 : (([("Counted", CCounted), ("Filler", CFiller), ("Lot", CLot), ("Row", CRow), ("Store", CStore)] : List (Str × Addr)).all fun p => ([("Counted", CCounted), ("Filler", CFiller), ("Lot", CLot), ("Row", CRow), ("Store", CStore)] : List (Str × Addr)).all fun q => decide (PySem.W.kitOne K (.ref p.2) (.ref q.2) = some (decide (p.1 = q.1)))) = true)
    (kk3 : (([("Counted", CCounted), ("Filler", CFiller), ("Lot", CLot), ("Row", CRow), ("Store", CStore)] : List (Str × Addr)).all fun p => insTyB K p.2) = true)
    (kk4 : (([("Counted", CCounted), ("Filler", CFiller), ("Lot", CLot), ("Row", CRow), ("Store", CStore)] : List (Str × Addr)).all fun p => kitBack K p.2) = true)
    (kk5 : (([("Counted", CCounted), ("Filler", CFiller), ("Lot", CLot), ("Row", CRow), ("Store", CStore), ("Packing", CPacking)] : List (Str × Addr)).all fun p => ([("Counted", CCounted), ("Filler", CFiller), ("Lot", CLot), ("Row", CRow), ("Store", CStore), ("Packing", CPacking)] : List (Str × Addr)).all fun q => decide (PySem.W.kitOne K (.ref p.2) (.ref q.2) = some (decide (p.1 = q.1)))) = true)
    (no_Counted_own_counts : PySem.W.findIn K (.ref CCounted) "own_counts" = some none)
    (no_Filler_own_runs : PySem.W.findIn K (.ref CFiller) "own_runs" = some none)
    (no_Lot_own_counts : PySem.W.findIn K (.ref CLot) "own_counts" = some none)
    (no_Row_own_runs : PySem.W.findIn K (.ref CRow) "own_runs" = some none)
    (no_Store_own_runs : PySem.W.findIn K (.ref CStore) "own_runs" = some none)
    (n_InvalidLot : PySem.W.nsIn K mainGlobals "InvalidLot" = some (some (.ref CInvalidLot)))
    (xi_InvalidLot : PySem.W.excIn K CInvalidLot [.type "ValueError", .type "Exception", .type "BaseException", .type "object"] "ValueError.__new__" = true)
    (kp_InvalidLot : PySem.W.keepIn K (.ref CInvalidLot) = true)
    (sb_InvalidLot : PySem.W.subIn K (.ref CInvalidLot) (.type "BaseException") = some true)
    (ty_InvalidLot : PySem.W.typeIn K (.ref CInvalidLot) = some (.type "type"))
    (n_InvalidOperation : PySem.W.nsIn K mainGlobals "InvalidOperation" = some (some (.ref CInvalidOperation)))
    (xi_InvalidOperation : PySem.W.excIn K CInvalidOperation [.type "ValueError", .type "Exception", .type "BaseException", .type "object"] "ValueError.__new__" = true)
    (kp_InvalidOperation : PySem.W.keepIn K (.ref CInvalidOperation) = true)
    (sb_InvalidOperation : PySem.W.subIn K (.ref CInvalidOperation) (.type "BaseException") = some true)
    (ty_InvalidOperation : PySem.W.typeIn K (.ref CInvalidOperation) = some (.type "type"))
    (n_InvalidPacking : PySem.W.nsIn K mainGlobals "InvalidPacking" = some (some (.ref CInvalidPacking)))
    (xi_InvalidPacking : PySem.W.excIn K CInvalidPacking [.type "ValueError", .type "Exception", .type "BaseException", .type "object"] "ValueError.__new__" = true)
    (kp_InvalidPacking : PySem.W.keepIn K (.ref CInvalidPacking) = true)
    (sb_InvalidPacking : PySem.W.subIn K (.ref CInvalidPacking) (.type "BaseException") = some true)
    (ty_InvalidPacking : PySem.W.typeIn K (.ref CInvalidPacking) = some (.type "type"))
    (n_InvalidStore : PySem.W.nsIn K mainGlobals "InvalidStore" = some (some (.ref CInvalidStore)))
    (xi_InvalidStore : PySem.W.excIn K CInvalidStore [.type "ValueError", .type "Exception", .type "BaseException", .type "object"] "ValueError.__new__" = true)
    (kp_InvalidStore : PySem.W.keepIn K (.ref CInvalidStore) = true)
    (sb_InvalidStore : PySem.W.subIn K (.ref CInvalidStore) (.type "BaseException") = some true)
    (ty_InvalidStore : PySem.W.typeIn K (.ref CInvalidStore) = some (.type "type"))
    (hx : (([("InvalidLot", CInvalidLot), ("InvalidOperation", CInvalidOperation), ("InvalidPacking", CInvalidPacking), ("InvalidStore", CInvalidStore)] : List (Str × Addr)).all fun p => ([("InvalidLot", CInvalidLot), ("InvalidOperation", CInvalidOperation), ("InvalidPacking", CInvalidPacking), ("InvalidStore", CInvalidStore)] : List (Str × Addr)).all fun q => decide (PySem.W.exmOne K (.ref p.2) (.ref q.2) = some (xisa p.1 q.1))) = true)
    (a0 : PySem.W.nsIn K mainGlobals "is_integer" = some (some (.ref f0)))
    (l0 : K.lookup f0 = some ⟨oc0, od0, .func (PySem.W.fnOf "is_integer" "is_integer" (defArgs s_is_integer) (defBody s_is_integer) (defScope s_is_integer) .none kV0 dc0 pm0 an0 cd0 ct0), sl0⟩) (c0 : PySem.W.codeIn K cd0 "is_integer" = true) (k0 : PySem.W.keepIn K (.ref f0) = true)
    (a1 : PySem.W.nsIn K mainGlobals "is_size" = some (some (.ref f1)))
    (l1 : K.lookup f1 = some ⟨oc1, od1, .func (PySem.W.fnOf "is_size" "is_size" (defArgs s_is_size) (defBody s_is_size) (defScope s_is_size) .none kV1 dc1 pm1 an1 cd1 ct1), sl1⟩) (c1 : PySem.W.codeIn K cd1 "is_size" = true) (k1 : PySem.W.keepIn K (.ref f1) = true)
    (a2 : PySem.W.nsIn K mainGlobals "is_table" = some (some (.ref f2)))
    (l2 : K.lookup f2 = some ⟨oc2, od2, .func (PySem.W.fnOf "is_table" "is_table" (defArgs s_is_table) (defBody s_is_table) (defScope s_is_table) .none kV2 dc2 pm2 an2 cd2 ct2), sl2⟩) (c2 : PySem.W.codeIn K cd2 "is_table" = true) (k2 : PySem.W.keepIn K (.ref f2) = true)
    (a3 : PySem.W.findIn K (.ref CLot) "__init__" = some (some (.ref f3)))
    (i3 : PySem.W.isFn K (.ref f3) = true)
    (mi_Lot : PySem.W.makesIn K CLot = true)
    (mk_Lot : PySem.W.keepIn K (.ref CLot) = true)
    (l3 : K.lookup f3 = some ⟨oc3, od3, .func (PySem.W.fnOf "__init__" "Lot.__init__" (defArgs s_Lot_init) (defBody s_Lot_init) (defScope s_Lot_init) (.ref dT3) kV3 dc3 pm3 an3 cd3 ct3), sl3⟩) (c3 : PySem.W.codeIn K cd3 "Lot.__init__" = true) (k3 : PySem.W.keepIn K (.ref f3) = true)
    (lT3 : K.lookup dT3 = some ⟨tc3, td3, .seq #[Value.none] tn3, ts3⟩)
    (a4 : PySem.W.nsIn K mainGlobals "is_run_stores" = some (some (.ref f4)))
    (l4 : K.lookup f4 = some ⟨oc4, od4, .func (PySem.W.fnOf "is_run" "is_run" (defArgs s_is_run_stores) (defBody s_is_run_stores) (defScope s_is_run_stores) .none kV4 dc4 pm4 an4 cd4 ct4), sl4⟩) (c4 : PySem.W.codeIn K cd4 "is_run" = true) (k4 : PySem.W.keepIn K (.ref f4) = true)
    (a5 : PySem.W.nsIn K mainGlobals "merged" = some (some (.ref f5)))
    (l5 : K.lookup f5 = some ⟨oc5, od5, .func (PySem.W.fnOf "merged" "merged" (defArgs s_merged) (defBody s_merged) (defScope s_merged) .none kV5 dc5 pm5 an5 cd5 ct5), sl5⟩) (c5 : PySem.W.codeIn K cd5 "merged" = true) (k5 : PySem.W.keepIn K (.ref f5) = true)
    (a6 : PySem.W.findIn K (.ref CStore) "__init__" = some (some (.ref f6)))
    (i6 : PySem.W.isFn K (.ref f6) = true)
    (mi_Store : PySem.W.makesIn K CStore = true)
    (mk_Store : PySem.W.keepIn K (.ref CStore) = true)
    (l6 : K.lookup f6 = some ⟨oc6, od6, .func (PySem.W.fnOf "__init__" "Store.__init__" (defArgs s_Store_init) (defBody s_Store_init) (defScope s_Store_init) .none kV6 dc6 pm6 an6 cd6 ct6), sl6⟩) (c6 : PySem.W.codeIn K cd6 "Store.__init__" = true) (k6 : PySem.W.keepIn K (.ref f6) = true)
    (a7 : PySem.W.nsIn K mainGlobals "_law_dice" = some (some (.ref f7)))
    (l7 : K.lookup f7 = some ⟨oc7, od7, .func (PySem.W.fnOf "_law_dice" "_law_dice" (defArgs s_law_dice) (defBody s_law_dice) (defScope s_law_dice) .none kV7 dc7 pm7 an7 cd7 ct7), sl7⟩) (c7 : PySem.W.codeIn K cd7 "_law_dice" = true) (k7 : PySem.W.keepIn K (.ref f7) = true)
    (a8 : PySem.W.nsIn K mainGlobals "require_lot" = some (some (.ref f8)))
    (l8 : K.lookup f8 = some ⟨oc8, od8, .func (PySem.W.fnOf "require_lot" "require_lot" (defArgs s_require_lot) (defBody s_require_lot) (defScope s_require_lot) .none kV8 dc8 pm8 an8 cd8 ct8), sl8⟩) (c8 : PySem.W.codeIn K cd8 "require_lot" = true) (k8 : PySem.W.keepIn K (.ref f8) = true)
    (a9 : PySem.W.nsIn K mainGlobals "require_store" = some (some (.ref f9)))
    (l9 : K.lookup f9 = some ⟨oc9, od9, .func (PySem.W.fnOf "require_store" "require_store" (defArgs s_require_store) (defBody s_require_store) (defScope s_require_store) .none kV9 dc9 pm9 an9 cd9 ct9), sl9⟩) (c9 : PySem.W.codeIn K cd9 "require_store" = true) (k9 : PySem.W.keepIn K (.ref f9) = true)
    (a10 : PySem.W.nsIn K mainGlobals "is_greedy" = some (some (.ref f10)))
    (l10 : K.lookup f10 = some ⟨oc10, od10, .func (PySem.W.fnOf "is_greedy" "is_greedy" (defArgs s_is_greedy) (defBody s_is_greedy) (defScope s_is_greedy) .none kV10 dc10 pm10 an10 cd10 ct10), sl10⟩) (c10 : PySem.W.codeIn K cd10 "is_greedy" = true) (k10 : PySem.W.keepIn K (.ref f10) = true)
    (a11 : PySem.W.findIn K (.ref CStore) "runs" = some (some (.ref p11)))
    (pg11 : PySem.W.specialIn K (.ref p11) "__get__" = some (some (.builtin "property.__get__")))
    (pt11 : PySem.W.takesIn K (.ref p11) = some true)
    (pc11 : PySem.W.recIn K p11 "property" = some (.ref f11 :: rs11))
    (l11 : K.lookup f11 = some ⟨oc11, od11, .func (PySem.W.fnOf "runs" "Store.runs" (defArgs s_Store_runs) (defBody s_Store_runs) (defScope s_Store_runs) .none kV11 dc11 pm11 an11 cd11 ct11), sl11⟩) (c11 : PySem.W.codeIn K cd11 "Store.runs" = true) (k11 : PySem.W.keepIn K (.ref f11) = true)
    (a12 : PySem.W.findIn K (.ref CFiller) "__init__" = some (some (.ref f12)))
    (i12 : PySem.W.isFn K (.ref f12) = true)
    (mi_Filler : PySem.W.makesIn K CFiller = true)
    (mk_Filler : PySem.W.keepIn K (.ref CFiller) = true)
    (l12 : K.lookup f12 = some ⟨oc12, od12, .func (PySem.W.fnOf "__init__" "Filler.__init__" (defArgs s_Filler_init) (defBody s_Filler_init) (defScope s_Filler_init) .none kV12 dc12 pm12 an12 cd12 ct12), sl12⟩) (c12 : PySem.W.codeIn K cd12 "Filler.__init__" = true) (k12 : PySem.W.keepIn K (.ref f12) = true)
    (a13 : PySem.W.nsIn K mainGlobals "is_filling" = some (some (.ref f13)))
    (l13 : K.lookup f13 = some ⟨oc13, od13, .func (PySem.W.fnOf "is_filling" "is_filling" (defArgs s_is_filling) (defBody s_is_filling) (defScope s_is_filling) .none kV13 dc13 pm13 an13 cd13 ct13), sl13⟩) (c13 : PySem.W.codeIn K cd13 "is_filling" = true) (k13 : PySem.W.keepIn K (.ref f13) = true)
    (a14 : PySem.W.nsIn K mainGlobals "load_in" = some (some (.ref f14)))
    (l14 : K.lookup f14 = some ⟨oc14, od14, .func (PySem.W.fnOf "load_in" "load_in" (defArgs s_load_in) (defBody s_load_in) (defScope s_load_in) .none kV14 dc14 pm14 an14 cd14 ct14), sl14⟩) (c14 : PySem.W.codeIn K cd14 "load_in" = true) (k14 : PySem.W.keepIn K (.ref f14) = true)
    (a15 : PySem.W.nsIn K mainGlobals "is_run" = some (some (.ref f15)))
    (l15 : K.lookup f15 = some ⟨oc15, od15, .func (PySem.W.fnOf "is_run" "is_run" (defArgs s_is_run) (defBody s_is_run) (defScope s_is_run) .none kV15 dc15 pm15 an15 cd15 ct15), sl15⟩) (c15 : PySem.W.codeIn K cd15 "is_run" = true) (k15 : PySem.W.keepIn K (.ref f15) = true)
    (a16 : PySem.W.nsIn K mainGlobals "joined_runs" = some (some (.ref f16)))
    (l16 : K.lookup f16 = some ⟨oc16, od16, .func (PySem.W.fnOf "joined_runs" "joined_runs" (defArgs s_joined_runs) (defBody s_joined_runs) (defScope s_joined_runs) .none kV16 dc16 pm16 an16 cd16 ct16), sl16⟩) (c16 : PySem.W.codeIn K cd16 "joined_runs" = true) (k16 : PySem.W.keepIn K (.ref f16) = true)
    (a17 : PySem.W.nsIn K mainGlobals "rooms_in" = some (some (.ref f17)))
    (l17 : K.lookup f17 = some ⟨oc17, od17, .func (PySem.W.fnOf "rooms_in" "rooms_in" (defArgs s_rooms_in) (defBody s_rooms_in) (defScope s_rooms_in) .none kV17 dc17 pm17 an17 cd17 ct17), sl17⟩) (c17 : PySem.W.codeIn K cd17 "rooms_in" = true) (k17 : PySem.W.keepIn K (.ref f17) = true)
    (a18 : PySem.W.nsIn K mainGlobals "sizes_in" = some (some (.ref f18)))
    (l18 : K.lookup f18 = some ⟨oc18, od18, .func (PySem.W.fnOf "sizes_in" "sizes_in" (defArgs s_sizes_in) (defBody s_sizes_in) (defScope s_sizes_in) .none kV18 dc18 pm18 an18 cd18 ct18), sl18⟩) (c18 : PySem.W.codeIn K cd18 "sizes_in" = true) (k18 : PySem.W.keepIn K (.ref f18) = true)
    (a19 : PySem.W.findIn K (.ref CPacking) "__init__" = some (some (.ref f19)))
    (i19 : PySem.W.isFn K (.ref f19) = true)
    (mi_Packing : PySem.W.makesIn K CPacking = true)
    (mk_Packing : PySem.W.keepIn K (.ref CPacking) = true)
    (l19 : K.lookup f19 = some ⟨oc19, od19, .func (PySem.W.fnOf "__init__" "Packing.__init__" (defArgs s_Packing_init) (defBody s_Packing_init) (defScope s_Packing_init) .none kV19 dc19 pm19 an19 cd19 ct19), sl19⟩) (c19 : PySem.W.codeIn K cd19 "Packing.__init__" = true) (k19 : PySem.W.keepIn K (.ref f19) = true)
    (a20 : PySem.W.findIn K (.ref CFiller) "packing" = some (some (.ref f20)))
    (i20 : PySem.W.isFn K (.ref f20) = true)
    (l20 : K.lookup f20 = some ⟨oc20, od20, .func (PySem.W.fnOf "packing" "Filler.packing" (defArgs s_Filler_packing) (defBody s_Filler_packing) (defScope s_Filler_packing) .none kV20 dc20 pm20 an20 cd20 ct20), sl20⟩) (c20 : PySem.W.codeIn K cd20 "Filler.packing" = true) (k20 : PySem.W.keepIn K (.ref f20) = true)
    (a21 : PySem.W.findIn K (.ref CFiller) "order" = some (some (.ref f21)))
    (i21 : PySem.W.isFn K (.ref f21) = true)
    (l21 : K.lookup f21 = some ⟨oc21, od21, .func (PySem.W.fnOf "order" "Filler.order" (defArgs s_Filler_order) (defBody s_Filler_order) (defScope s_Filler_order) .none kV21 dc21 pm21 an21 cd21 ct21), sl21⟩) (c21 : PySem.W.codeIn K cd21 "Filler.order" = true) (k21 : PySem.W.keepIn K (.ref f21) = true)
    (a22 : PySem.W.nsIn K mainGlobals "with_more" = some (some (.ref f22)))
    (l22 : K.lookup f22 = some ⟨oc22, od22, .func (PySem.W.fnOf "with_more" "with_more" (defArgs s_with_more) (defBody s_with_more) (defScope s_with_more) .none kV22 dc22 pm22 an22 cd22 ct22), sl22⟩) (c22 : PySem.W.codeIn K cd22 "with_more" = true) (k22 : PySem.W.keepIn K (.ref f22) = true)
    (a23 : PySem.W.nsIn K mainGlobals "filled" = some (some (.ref f23)))
    (l23 : K.lookup f23 = some ⟨oc23, od23, .func (PySem.W.fnOf "filled" "filled" (defArgs s_filled) (defBody s_filled) (defScope s_filled) .none kV23 dc23 pm23 an23 cd23 ct23), sl23⟩) (c23 : PySem.W.codeIn K cd23 "filled" = true) (k23 : PySem.W.keepIn K (.ref f23) = true)
    (a24 : PySem.W.findIn K (.ref CFiller) "put_in" = some (some (.ref f24)))
    (i24 : PySem.W.isFn K (.ref f24) = true)
    (l24 : K.lookup f24 = some ⟨oc24, od24, .func (PySem.W.fnOf "put_in" "Filler.put_in" (defArgs s_Filler_put_in) (defBody s_Filler_put_in) (defScope s_Filler_put_in) .none kV24 dc24 pm24 an24 cd24 ct24), sl24⟩) (c24 : PySem.W.codeIn K cd24 "Filler.put_in" = true) (k24 : PySem.W.keepIn K (.ref f24) = true)
    (a25 : PySem.W.findIn K (.ref CFiller) "put" = some (some (.ref f25)))
    (i25 : PySem.W.isFn K (.ref f25) = true)
    (l25 : K.lookup f25 = some ⟨oc25, od25, .func (PySem.W.fnOf "put" "Filler.put" (defArgs s_Filler_put) (defBody s_Filler_put) (defScope s_Filler_put) .none kV25 dc25 pm25 an25 cd25 ct25), sl25⟩) (c25 : PySem.W.codeIn K cd25 "Filler.put" = true) (k25 : PySem.W.keepIn K (.ref f25) = true)
    (a26 : PySem.W.nsIn K mainGlobals "is_row" = some (some (.ref f26)))
    (l26 : K.lookup f26 = some ⟨oc26, od26, .func (PySem.W.fnOf "is_row" "is_row" (defArgs s_is_row) (defBody s_is_row) (defScope s_is_row) .none kV26 dc26 pm26 an26 cd26 ct26), sl26⟩) (c26 : PySem.W.codeIn K cd26 "is_row" = true) (k26 : PySem.W.keepIn K (.ref f26) = true)
    (a27 : PySem.W.nsIn K mainGlobals "require_row" = some (some (.ref f27)))
    (l27 : K.lookup f27 = some ⟨oc27, od27, .func (PySem.W.fnOf "require_row" "require_row" (defArgs s_require_row) (defBody s_require_row) (defScope s_require_row) .none kV27 dc27 pm27 an27 cd27 ct27), sl27⟩) (c27 : PySem.W.codeIn K cd27 "require_row" = true) (k27 : PySem.W.keepIn K (.ref f27) = true)
    (a28 : PySem.W.nsIn K mainGlobals "pack_row" = some (some (.ref f28)))
    (l28 : K.lookup f28 = some ⟨oc28, od28, .func (PySem.W.fnOf "pack_row" "pack_row" (defArgs s_pack_row) (defBody s_pack_row) (defScope s_pack_row) .none kV28 dc28 pm28 an28 cd28 ct28), sl28⟩) (c28 : PySem.W.codeIn K cd28 "pack_row" = true) (k28 : PySem.W.keepIn K (.ref f28) = true)
    (a29 : PySem.W.nsIn K mainGlobals "is_taken" = some (some (.ref f29)))
    (l29 : K.lookup f29 = some ⟨oc29, od29, .func (PySem.W.fnOf "is_taken" "is_taken" (defArgs s_is_taken) (defBody s_is_taken) (defScope s_is_taken) .none kV29 dc29 pm29 an29 cd29 ct29), sl29⟩) (c29 : PySem.W.codeIn K cd29 "is_taken" = true) (k29 : PySem.W.keepIn K (.ref f29) = true)
    (a30 : PySem.W.nsIn K mainGlobals "lot_of" = some (some (.ref f30)))
    (l30 : K.lookup f30 = some ⟨oc30, od30, .func (PySem.W.fnOf "lot_of" "lot_of" (defArgs s_lot_of) (defBody s_lot_of) (defScope s_lot_of) .none kV30 dc30 pm30 an30 cd30 ct30), sl30⟩) (c30 : PySem.W.codeIn K cd30 "lot_of" = true) (k30 : PySem.W.keepIn K (.ref f30) = true)
    (a31 : PySem.W.findIn K (.ref CLot) "counts" = some (some (.ref p31)))
    (pg31 : PySem.W.specialIn K (.ref p31) "__get__" = some (some (.builtin "property.__get__")))
    (pt31 : PySem.W.takesIn K (.ref p31) = some true)
    (pc31 : PySem.W.recIn K p31 "property" = some (.ref f31 :: rs31))
    (l31 : K.lookup f31 = some ⟨oc31, od31, .func (PySem.W.fnOf "counts" "Lot.counts" (defArgs s_Lot_counts) (defBody s_Lot_counts) (defScope s_Lot_counts) .none kV31 dc31 pm31 an31 cd31 ct31), sl31⟩) (c31 : PySem.W.codeIn K cd31 "Lot.counts" = true) (k31 : PySem.W.keepIn K (.ref f31) = true)
    (a32 : PySem.W.nsIn K mainGlobals "is_rule" = some (some (.ref f32)))
    (l32 : K.lookup f32 = some ⟨oc32, od32, .func (PySem.W.fnOf "is_rule" "is_rule" (defArgs s_is_rule) (defBody s_is_rule) (defScope s_is_rule) .none kV32 dc32 pm32 an32 cd32 ct32), sl32⟩) (c32 : PySem.W.codeIn K cd32 "is_rule" = true) (k32 : PySem.W.keepIn K (.ref f32) = true)
    (a33 : PySem.W.nsIn K mainGlobals "pack" = some (some (.ref f33)))
    (l33 : K.lookup f33 = some ⟨oc33, od33, .func (PySem.W.fnOf "pack" "pack" (defArgs s_pack) (defBody s_pack) (defScope s_pack) .none kV33 dc33 pm33 an33 cd33 ct33), sl33⟩) (c33 : PySem.W.codeIn K cd33 "pack" = true) (k33 : PySem.W.keepIn K (.ref f33) = true)
    (a34 : PySem.W.nsIn K mainGlobals "_law_roll" = some (some (.ref f34)))
    (l34 : K.lookup f34 = some ⟨oc34, od34, .func (PySem.W.fnOf "_law_roll" "_law_roll" (defArgs s_law_roll) (defBody s_law_roll) (defScope s_law_roll) .none kV34 dc34 pm34 an34 cd34 ct34), sl34⟩) (c34 : PySem.W.codeIn K cd34 "_law_roll" = true) (k34 : PySem.W.keepIn K (.ref f34) = true)
    (a35 : PySem.W.nsIn K mainGlobals "_law_pick" = some (some (.ref f35)))
    (l35 : K.lookup f35 = some ⟨oc35, od35, .func (PySem.W.fnOf "_law_pick" "_law_pick" (defArgs s_law_pick) (defBody s_law_pick) (defScope s_law_pick) .none kV35 dc35 pm35 an35 cd35 ct35), sl35⟩) (c35 : PySem.W.codeIn K cd35 "_law_pick" = true) (k35 : PySem.W.keepIn K (.ref f35) = true)
    (a36 : PySem.W.nsIn K mainGlobals "_law_word" = some (some (.ref f36)))
    (l36 : K.lookup f36 = some ⟨oc36, od36, .func (PySem.W.fnOf "_law_word" "_law_word" (defArgs s_law_word) (defBody s_law_word) (defScope s_law_word) .none kV36 dc36 pm36 an36 cd36 ct36), sl36⟩) (c36 : PySem.W.codeIn K cd36 "_law_word" = true) (k36 : PySem.W.keepIn K (.ref f36) = true)
    (a37 : PySem.W.nsIn K mainGlobals "_law_right" = some (some (.ref f37)))
    (l37 : K.lookup f37 = some ⟨oc37, od37, .func (PySem.W.fnOf "_law_right" "_law_right" (defArgs s_law_right) (defBody s_law_right) (defScope s_law_right) .none kV37 dc37 pm37 an37 (.ref cc37) ct37), sl37⟩) (c37 : PySem.W.codeIn K (.ref cc37) "_law_right" = true) (k37 : PySem.W.keepIn K (.ref f37) = true)
    (tc37 : K.lookup cc37 = some ⟨te37, td37, .fields tv37, tl37⟩)
    (tp37 : tv37[11]? = some (.ref tP37))
    (tn37 : K.lookup tP37 = none)
    (tr37 : ((recsOf q).any fun e => e.name == "_law_right") = true)
    (a38 : PySem.W.nsIn K mainGlobals "law" = some (some (.ref f38)))
    (l38 : K.lookup f38 = some ⟨oc38, od38, .func (PySem.W.fnOf "law" "law" (defArgs s_law) (defBody s_law) (defScope s_law) .none kV38 dc38 pm38 an38 cd38 ct38), sl38⟩) (c38 : PySem.W.codeIn K cd38 "law" = true) (k38 : PySem.W.keepIn K (.ref f38) = true)
    (ml_is_run_packings : PySem.W.nsIn K mainGlobals "is_run_packings" = some (some (.ref f15)))
    (ml_lot_of_rules : PySem.W.nsIn K mainGlobals "lot_of_rules" = some (some (.ref f30)))
    (z_abs : PySem.W.nsIn K mainGlobals "abs" = some none)
    (z_all : PySem.W.nsIn K mainGlobals "all" = some none)
    (z_bool : PySem.W.nsIn K mainGlobals "bool" = some none)
    (z_dict : PySem.W.nsIn K mainGlobals "dict" = some none)
    (z_enumerate : PySem.W.nsIn K mainGlobals "enumerate" = some none)
    (z_int : PySem.W.nsIn K mainGlobals "int" = some none)
    (z_isinstance : PySem.W.nsIn K mainGlobals "isinstance" = some none)
    (z_len : PySem.W.nsIn K mainGlobals "len" = some none)
    (z_list : PySem.W.nsIn K mainGlobals "list" = some none)
    (z_max : PySem.W.nsIn K mainGlobals "max" = some none)
    (z_min : PySem.W.nsIn K mainGlobals "min" = some none)
    (z_range : PySem.W.nsIn K mainGlobals "range" = some none)
    (z_sorted : PySem.W.nsIn K mainGlobals "sorted" = some none)
    (z_str : PySem.W.nsIn K mainGlobals "str" = some none)
    (z_sum : PySem.W.nsIn K mainGlobals "sum" = some none)
    (z_tuple : PySem.W.nsIn K mainGlobals "tuple" = some none)
    (z_zip : PySem.W.nsIn K mainGlobals "zip" = some none)
    (g_FIRST : PySem.W.nsIn K mainGlobals "FIRST" = some (some (.str "first" t_FIRST)))
    (g_LAST : PySem.W.nsIn K mainGlobals "LAST" = some (some (.str "last" t_LAST)))
    (g_LIMIT : PySem.W.nsIn K mainGlobals "LIMIT" = some (some (.int 100000000000000000000000000000000000000000000000000000000000000000000000000000000000000000000000000000000000000000000000000000000000000000000000000000000000000000000000000000000000000000000000000000000 t_LIMIT)))
    (g_MAX_ROW : PySem.W.nsIn K mainGlobals "MAX_ROW" = some (some (.int 200 t_MAX_ROW)))
    (g_MAX_RUNS_packings : PySem.W.nsIn K mainGlobals "MAX_RUNS_packings" = some (some (.int 2000 t_MAX_RUNS_packings)))
    (g_MAX_RUNS_stores : PySem.W.nsIn K mainGlobals "MAX_RUNS_stores" = some (some (.int 40 t_MAX_RUNS_stores)))
    (g_MAX_SIZES_lots : PySem.W.nsIn K mainGlobals "MAX_SIZES_lots" = some (some (.int 12 t_MAX_SIZES_lots)))
    (g_MAX_SIZES_packings : PySem.W.nsIn K mainGlobals "MAX_SIZES_packings" = some (some (.int 12 t_MAX_SIZES_packings)))
    (g_MAX_SIZES_rules : PySem.W.nsIn K mainGlobals "MAX_SIZES_rules" = some (some (.int 12 t_MAX_SIZES_rules)))
    (g_MAX_STORE : PySem.W.nsIn K mainGlobals "MAX_STORE" = some (some (.int 40 t_MAX_STORE)))
    (g_RULES : PySem.W.nsIn K mainGlobals "RULES" = some (some (.ref aRULES)))
    (tk_RULES : CT K aRULES ["first", "last", "tightest"])
    (g_TIGHTEST : PySem.W.nsIn K mainGlobals "TIGHTEST" = some (some (.str "tightest" t_TIGHTEST)))
    (hND : ([tP37] : List Addr).Nodup) :
    ∃ (TT : List (Addr × Str)) (cs : List (Addr × Addr)), (∀ p ∈ TT, p.1 ∈ cs.map (·.2)) ∧ (∀ p ∈ cs, ∃ dn fc, LamAt K mg q dn fc p.1 p.2) ∧ ∀ base : Heap, K.In base → base.Ns mainGlobals mg → (∀ p ∈ cs, LamX.TabB base mg p.1 p.2) → @FnD ⟨TT⟩ l.prog w K mg base 13 fa m_law := by
  have e := hfa.symm.trans (PySem.W.mg_of X G a38)
  cases e
  refine ⟨[(tP37, ("_law_right.<locals>.<lambda>" : Str))], [(cc37, tP37)], ?_, ?_, fun base _ _ TB => ?_⟩
  · intro p hp; simp only [List.mem_cons, List.not_mem_nil, or_false] at hp; rcases hp with rfl <;> simp
  · intro p hp; simp only [List.mem_cons, List.not_mem_nil, or_false] at hp; rcases hp with rfl
    · exact ⟨"_law_right", f37, PySem.W.mg_of X G a37, tr37, ⟨_, _, l37, rfl, rfl⟩, ⟨_, _, _, _, tc37, tp37⟩, tn37⟩
  letI : TabsC := ⟨[(tP37, ("_law_right.<locals>.<lambda>" : Str))]⟩
  let T : Txt K mg base := {
    C_Packing := CPacking,
    n_Packing := n_Packing,
    g_Packing := PySem.W.mg_of X G n_Packing,
    sc_Packing := ⟨s1_Packing, s2_Packing, s3_Packing, s4_Packing⟩,
    q_Packing := QPacking,
    st_Packing := ⟨t1_Packing, t2_Packing, t3_Packing, t4_Packing, t5_Packing, by decide⟩,
    C_Counted := CCounted,
    n_Counted := n_Counted,
    g_Counted := PySem.W.mg_of X G n_Counted,
    cl_Counted := (insTy_of ct_Counted).cl,
    ki_Counted := ki_Counted,
    C_Filler := CFiller,
    n_Filler := n_Filler,
    g_Filler := PySem.W.mg_of X G n_Filler,
    cl_Filler := (insTy_of ct_Filler).cl,
    C_Lot := CLot,
    n_Lot := n_Lot,
    g_Lot := PySem.W.mg_of X G n_Lot,
    cl_Lot := (insTy_of ct_Lot).cl,
    ki_Lot := ki_Lot,
    C_Row := CRow,
    n_Row := n_Row,
    g_Row := PySem.W.mg_of X G n_Row,
    cl_Row := (insTy_of ct_Row).cl,
    ki_Row := ki_Row,
    C_Store := CStore,
    n_Store := n_Store,
    g_Store := PySem.W.mg_of X G n_Store,
    cl_Store := (insTy_of ct_Store).cl,
    ki_Store := ki_Store,
    kits := KitOwn.of [("Counted", CCounted), ("Filler", CFiller), ("Lot", CLot), ("Row", CRow), ("Store", CStore)] rfl (by decide) (by intro p hp; simp only [List.mem_cons, List.not_mem_nil, or_false] at hp; rcases hp with rfl | rfl | rfl | rfl | rfl <;> assumption) kk2 kk3,
    kback := BackOwn.of [("Counted", CCounted), ("Filler", CFiller), ("Lot", CLot), ("Row", CRow), ("Store", CStore)] rfl (by intro p hp; simp only [List.mem_cons, List.not_mem_nil, or_false] at hp; rcases hp with rfl | rfl | rfl | rfl | rfl <;> assumption) kk4,
    ksl := KitSl.of (KitOwn.of [("Counted", CCounted), ("Filler", CFiller), ("Lot", CLot), ("Row", CRow), ("Store", CStore)] rfl (by decide) (by intro p hp; simp only [List.mem_cons, List.not_mem_nil, or_false] at hp; rcases hp with rfl | rfl | rfl | rfl | rfl <;> assumption) kk2 kk3) [("Counted", CCounted), ("Filler", CFiller), ("Lot", CLot), ("Row", CRow), ("Store", CStore), ("Packing", CPacking)] rfl (by intro p hp; simp only [List.mem_cons, List.not_mem_nil, or_false] at hp; rcases hp with rfl | rfl | rfl | rfl | rfl | rfl <;> assumption) kk5 (by intro m Cm hm hn; simp only [List.mem_cons, List.not_mem_nil, or_false] at hm; rcases hm with rfl; · (rw [n_Packing] at hn; cases hn; exact ⟨⟨s1_Packing, s2_Packing, s3_Packing, s4_Packing⟩, ⟨u1_Packing, u2_Packing, u3_Packing, u4_Packing⟩⟩)),
    no_Counted_own_counts := no_Counted_own_counts,
    no_Filler_own_runs := no_Filler_own_runs,
    no_Lot_own_counts := no_Lot_own_counts,
    no_Row_own_runs := no_Row_own_runs,
    no_Store_own_runs := no_Store_own_runs,
    C_InvalidLot := CInvalidLot,
    n_InvalidLot := n_InvalidLot,
    g_InvalidLot := PySem.W.mg_of X G n_InvalidLot,
    xi_InvalidLot := xi_InvalidLot,
    kp_InvalidLot := kp_InvalidLot,
    sb_InvalidLot := sb_InvalidLot,
    ty_InvalidLot := ty_InvalidLot,
    C_InvalidOperation := CInvalidOperation,
    n_InvalidOperation := n_InvalidOperation,
    g_InvalidOperation := PySem.W.mg_of X G n_InvalidOperation,
    xi_InvalidOperation := xi_InvalidOperation,
    kp_InvalidOperation := kp_InvalidOperation,
    sb_InvalidOperation := sb_InvalidOperation,
    ty_InvalidOperation := ty_InvalidOperation,
    C_InvalidPacking := CInvalidPacking,
    n_InvalidPacking := n_InvalidPacking,
    g_InvalidPacking := PySem.W.mg_of X G n_InvalidPacking,
    xi_InvalidPacking := xi_InvalidPacking,
    kp_InvalidPacking := kp_InvalidPacking,
    sb_InvalidPacking := sb_InvalidPacking,
    ty_InvalidPacking := ty_InvalidPacking,
    C_InvalidStore := CInvalidStore,
    n_InvalidStore := n_InvalidStore,
    g_InvalidStore := PySem.W.mg_of X G n_InvalidStore,
    xi_InvalidStore := xi_InvalidStore,
    kp_InvalidStore := kp_InvalidStore,
    sb_InvalidStore := sb_InvalidStore,
    ty_InvalidStore := ty_InvalidStore,
    isa := HIsa.of [("InvalidLot", CInvalidLot), ("InvalidOperation", CInvalidOperation), ("InvalidPacking", CInvalidPacking), ("InvalidStore", CInvalidStore)] rfl (by intro p hp; simp only [List.mem_cons, List.not_mem_nil, or_false] at hp; rcases hp with rfl | rfl | rfl | rfl <;> assumption) hx,
    f_is_integer := f0,
    d_is_integer := _,
    F_is_integer := fun_mk (st := s_is_integer) l0 c0 k0,
    m_is_integer := PySem.W.mg_of X G a0,
    k_is_integer := k0,
    b_is_integer := (fun_mk (st := s_is_integer) l0 c0 k0).binds fun _ _ _ _ _ _ us hl => match us, hl with | [_], _ => rfl,
    f_is_size := f1,
    d_is_size := _,
    F_is_size := fun_mk (st := s_is_size) l1 c1 k1,
    m_is_size := PySem.W.mg_of X G a1,
    k_is_size := k1,
    b_is_size := (fun_mk (st := s_is_size) l1 c1 k1).binds fun _ _ _ _ _ _ us hl => match us, hl with | [_], _ => rfl,
    f_is_table := f2,
    d_is_table := _,
    F_is_table := fun_mk (st := s_is_table) l2 c2 k2,
    m_is_table := PySem.W.mg_of X G a2,
    k_is_table := k2,
    b_is_table := (fun_mk (st := s_is_table) l2 c2 k2).binds fun _ _ _ _ _ _ us hl => match us, hl with | [_], _ => rfl,
    mk_Lot := ⟨mi_Lot, a3, i3, mk_Lot⟩,
    f_Lot_init := f3,
    d_Lot_init := _,
    F_Lot_init := (⟨⟨_, _, _, _, _, _, _, _, _, _, rfl, l3, c3, .inr ⟨by simp, dT3, _, [Value.none], tn3, rfl, lT3, rfl, .cons rfl .nil⟩, .inl rfl⟩, k3⟩ : FunD K "__init__" "Lot.__init__" (defArgs s_Lot_init) (defBody s_Lot_init) (defScope s_Lot_init) [.non] [] f3 _),
    b0_Lot_init := (⟨⟨_, _, _, _, _, _, _, _, _, _, rfl, l3, c3, .inr ⟨by simp, dT3, _, [Value.none], tn3, rfl, lT3, rfl, .cons rfl .nil⟩, .inl rfl⟩, k3⟩ : FunD K "__init__" "Lot.__init__" (defArgs s_Lot_init) (defBody s_Lot_init) (defScope s_Lot_init) [.non] [] f3 _).binds1 1 0 (by simp) rfl fun T kV doc pm an cdv ct us its l1 l2 => match us, its, l1, l2 with | [_], [_], _, _ => ⟨_, rfl, rfl⟩,
    b1_Lot_init := (⟨⟨_, _, _, _, _, _, _, _, _, _, rfl, l3, c3, .inr ⟨by simp, dT3, _, [Value.none], tn3, rfl, lT3, rfl, .cons rfl .nil⟩, .inl rfl⟩, k3⟩ : FunD K "__init__" "Lot.__init__" (defArgs s_Lot_init) (defBody s_Lot_init) (defScope s_Lot_init) [.non] [] f3 _).binds1 2 1 (by simp) rfl fun T kV doc pm an cdv ct us its l1 l2 => match us, its, l1, l2 with | [_, _], [_], _, _ => ⟨_, rfl, rfl⟩,
    f_is_run_stores := f4,
    d_is_run_stores := _,
    F_is_run_stores := fun_mk (st := s_is_run_stores) l4 c4 k4,
    m_is_run_stores := PySem.W.mg_of X G a4,
    k_is_run_stores := k4,
    b_is_run_stores := (fun_mk (st := s_is_run_stores) l4 c4 k4).binds fun _ _ _ _ _ _ us hl => match us, hl with | [_], _ => rfl,
    f_merged := f5,
    d_merged := _,
    F_merged := fun_mk (st := s_merged) l5 c5 k5,
    m_merged := PySem.W.mg_of X G a5,
    k_merged := k5,
    b_merged := (fun_mk (st := s_merged) l5 c5 k5).binds fun _ _ _ _ _ _ us hl => match us, hl with | [_], _ => rfl,
    mk_Store := ⟨mi_Store, a6, i6, mk_Store⟩,
    f_Store_init := f6,
    d_Store_init := _,
    F_Store_init := fun_mk (st := s_Store_init) l6 c6 k6,
    b_Store_init := StX.bind_star1 (B := fun xs => bindArgs _ ⟨xs, []⟩) (fun a => rfl) (fun a r rs => rfl),
    f_law_dice := f7,
    d_law_dice := _,
    F_law_dice := fun_mk (st := s_law_dice) l7 c7 k7,
    m_law_dice := PySem.W.mg_of X G a7,
    k_law_dice := k7,
    b_law_dice := (fun_mk (st := s_law_dice) l7 c7 k7).binds fun _ _ _ _ _ _ us hl => match us, hl with | [_, _], _ => rfl,
    f_require_lot := f8,
    d_require_lot := _,
    F_require_lot := fun_mk (st := s_require_lot) l8 c8 k8,
    m_require_lot := PySem.W.mg_of X G a8,
    k_require_lot := k8,
    b_require_lot := (fun_mk (st := s_require_lot) l8 c8 k8).binds fun _ _ _ _ _ _ us hl => match us, hl with | [_], _ => rfl,
    f_require_store := f9,
    d_require_store := _,
    F_require_store := fun_mk (st := s_require_store) l9 c9 k9,
    m_require_store := PySem.W.mg_of X G a9,
    k_require_store := k9,
    b_require_store := (fun_mk (st := s_require_store) l9 c9 k9).binds fun _ _ _ _ _ _ us hl => match us, hl with | [_], _ => rfl,
    f_is_greedy := f10,
    d_is_greedy := _,
    F_is_greedy := fun_mk (st := s_is_greedy) l10 c10 k10,
    m_is_greedy := PySem.W.mg_of X G a10,
    k_is_greedy := k10,
    b_is_greedy := (fun_mk (st := s_is_greedy) l10 c10 k10).binds fun _ _ _ _ _ _ us hl => match us, hl with | [_, _, _], _ => rfl,
    p_Store_runs := p11,
    pr_Store_runs := ⟨a11, pg11, pt11, _, pc11⟩,
    f_Store_runs := f11,
    d_Store_runs := _,
    F_Store_runs := fun_mk (st := s_Store_runs) l11 c11 k11,
    b_Store_runs := (fun_mk (st := s_Store_runs) l11 c11 k11).binds fun _ _ _ _ _ _ us hl => match us, hl with | [_], _ => rfl,
    mk_Filler := ⟨mi_Filler, a12, i12, mk_Filler⟩,
    f_Filler_init := f12,
    d_Filler_init := _,
    F_Filler_init := fun_mk (st := s_Filler_init) l12 c12 k12,
    b_Filler_init := (fun_mk (st := s_Filler_init) l12 c12 k12).binds fun _ _ _ _ _ _ us hl => match us, hl with | [_, _], _ => rfl,
    f_is_filling := f13,
    d_is_filling := _,
    F_is_filling := fun_mk (st := s_is_filling) l13 c13 k13,
    m_is_filling := PySem.W.mg_of X G a13,
    k_is_filling := k13,
    b_is_filling := (fun_mk (st := s_is_filling) l13 c13 k13).binds fun _ _ _ _ _ _ us hl => match us, hl with | [_], _ => rfl,
    f_load_in := f14,
    d_load_in := _,
    F_load_in := fun_mk (st := s_load_in) l14 c14 k14,
    m_load_in := PySem.W.mg_of X G a14,
    k_load_in := k14,
    b_load_in := (fun_mk (st := s_load_in) l14 c14 k14).binds fun _ _ _ _ _ _ us hl => match us, hl with | [_], _ => rfl,
    f_is_run := f15,
    d_is_run := _,
    F_is_run := fun_mk (st := s_is_run) l15 c15 k15,
    m_is_run := PySem.W.mg_of X G a15,
    k_is_run := k15,
    b_is_run := (fun_mk (st := s_is_run) l15 c15 k15).binds fun _ _ _ _ _ _ us hl => match us, hl with | [_], _ => rfl,
    f_joined_runs := f16,
    d_joined_runs := _,
    F_joined_runs := fun_mk (st := s_joined_runs) l16 c16 k16,
    m_joined_runs := PySem.W.mg_of X G a16,
    k_joined_runs := k16,
    b_joined_runs := (fun_mk (st := s_joined_runs) l16 c16 k16).binds fun _ _ _ _ _ _ us hl => match us, hl with | [_], _ => rfl,
    f_rooms_in := f17,
    d_rooms_in := _,
    F_rooms_in := fun_mk (st := s_rooms_in) l17 c17 k17,
    m_rooms_in := PySem.W.mg_of X G a17,
    k_rooms_in := k17,
    b_rooms_in := (fun_mk (st := s_rooms_in) l17 c17 k17).binds fun _ _ _ _ _ _ us hl => match us, hl with | [_], _ => rfl,
    f_sizes_in := f18,
    d_sizes_in := _,
    F_sizes_in := fun_mk (st := s_sizes_in) l18 c18 k18,
    m_sizes_in := PySem.W.mg_of X G a18,
    k_sizes_in := k18,
    b_sizes_in := (fun_mk (st := s_sizes_in) l18 c18 k18).binds fun _ _ _ _ _ _ us hl => match us, hl with | [_], _ => rfl,
    mk_Packing := ⟨mi_Packing, a19, i19, mk_Packing⟩,
    f_Packing_init := f19,
    d_Packing_init := _,
    F_Packing_init := fun_mk (st := s_Packing_init) l19 c19 k19,
    b_Packing_init := StX.bind_star1 (B := fun xs => bindArgs _ ⟨xs, []⟩) (fun a => rfl) (fun a r rs => rfl),
    f_Filler_packing := f20,
    d_Filler_packing := _,
    F_Filler_packing := fun_mk (st := s_Filler_packing) l20 c20 k20,
    me_Filler_packing := ⟨a20, i20, k20⟩,
    b_Filler_packing := (fun_mk (st := s_Filler_packing) l20 c20 k20).binds fun _ _ _ _ _ _ us hl => match us, hl with | [_], _ => rfl,
    f_Filler_order := f21,
    d_Filler_order := _,
    F_Filler_order := fun_mk (st := s_Filler_order) l21 c21 k21,
    me_Filler_order := ⟨a21, i21, k21⟩,
    b_Filler_order := (fun_mk (st := s_Filler_order) l21 c21 k21).binds fun _ _ _ _ _ _ us hl => match us, hl with | [_, _, _], _ => rfl,
    f_with_more := f22,
    d_with_more := _,
    F_with_more := fun_mk (st := s_with_more) l22 c22 k22,
    m_with_more := PySem.W.mg_of X G a22,
    k_with_more := k22,
    b_with_more := (fun_mk (st := s_with_more) l22 c22 k22).binds fun _ _ _ _ _ _ us hl => match us, hl with | [_, _, _], _ => rfl,
    f_filled := f23,
    d_filled := _,
    F_filled := fun_mk (st := s_filled) l23 c23 k23,
    m_filled := PySem.W.mg_of X G a23,
    k_filled := k23,
    b_filled := (fun_mk (st := s_filled) l23 c23 k23).binds fun _ _ _ _ _ _ us hl => match us, hl with | [_, _, _], _ => rfl,
    f_Filler_put_in := f24,
    d_Filler_put_in := _,
    F_Filler_put_in := fun_mk (st := s_Filler_put_in) l24 c24 k24,
    me_Filler_put_in := ⟨a24, i24, k24⟩,
    b_Filler_put_in := (fun_mk (st := s_Filler_put_in) l24 c24 k24).binds fun _ _ _ _ _ _ us hl => match us, hl with | [_, _, _, _, _], _ => rfl,
    f_Filler_put := f25,
    d_Filler_put := _,
    F_Filler_put := fun_mk (st := s_Filler_put) l25 c25 k25,
    me_Filler_put := ⟨a25, i25, k25⟩,
    b_Filler_put := (fun_mk (st := s_Filler_put) l25 c25 k25).binds fun _ _ _ _ _ _ us hl => match us, hl with | [_, _, _, _], _ => rfl,
    f_is_row := f26,
    d_is_row := _,
    F_is_row := fun_mk (st := s_is_row) l26 c26 k26,
    m_is_row := PySem.W.mg_of X G a26,
    k_is_row := k26,
    b_is_row := (fun_mk (st := s_is_row) l26 c26 k26).binds fun _ _ _ _ _ _ us hl => match us, hl with | [_], _ => rfl,
    f_require_row := f27,
    d_require_row := _,
    F_require_row := fun_mk (st := s_require_row) l27 c27 k27,
    m_require_row := PySem.W.mg_of X G a27,
    k_require_row := k27,
    b_require_row := (fun_mk (st := s_require_row) l27 c27 k27).binds fun _ _ _ _ _ _ us hl => match us, hl with | [_], _ => rfl,
    f_pack_row := f28,
    d_pack_row := _,
    F_pack_row := fun_mk (st := s_pack_row) l28 c28 k28,
    m_pack_row := PySem.W.mg_of X G a28,
    k_pack_row := k28,
    nn_pack_row := a28,
    b_pack_row := (fun_mk (st := s_pack_row) l28 c28 k28).binds fun _ _ _ _ _ _ us hl => match us, hl with | [_, _], _ => rfl,
    f_is_taken := f29,
    d_is_taken := _,
    F_is_taken := fun_mk (st := s_is_taken) l29 c29 k29,
    m_is_taken := PySem.W.mg_of X G a29,
    k_is_taken := k29,
    nn_is_taken := a29,
    b_is_taken := (fun_mk (st := s_is_taken) l29 c29 k29).binds fun _ _ _ _ _ _ us hl => match us, hl with | [_, _], _ => rfl,
    f_lot_of := f30,
    d_lot_of := _,
    F_lot_of := fun_mk (st := s_lot_of) l30 c30 k30,
    m_lot_of := PySem.W.mg_of X G a30,
    k_lot_of := k30,
    b_lot_of := (fun_mk (st := s_lot_of) l30 c30 k30).binds fun _ _ _ _ _ _ us hl => match us, hl with | [_], _ => rfl,
    p_Lot_counts := p31,
    pr_Lot_counts := ⟨a31, pg31, pt31, _, pc31⟩,
    f_Lot_counts := f31,
    d_Lot_counts := _,
    F_Lot_counts := fun_mk (st := s_Lot_counts) l31 c31 k31,
    b_Lot_counts := (fun_mk (st := s_Lot_counts) l31 c31 k31).binds fun _ _ _ _ _ _ us hl => match us, hl with | [_], _ => rfl,
    f_is_rule := f32,
    d_is_rule := _,
    F_is_rule := fun_mk (st := s_is_rule) l32 c32 k32,
    m_is_rule := PySem.W.mg_of X G a32,
    k_is_rule := k32,
    b_is_rule := (fun_mk (st := s_is_rule) l32 c32 k32).binds fun _ _ _ _ _ _ us hl => match us, hl with | [_], _ => rfl,
    f_pack := f33,
    d_pack := _,
    F_pack := fun_mk (st := s_pack) l33 c33 k33,
    m_pack := PySem.W.mg_of X G a33,
    k_pack := k33,
    b_pack := fun s us ws h1 h2 => match us, ws, h1, h2 with | [_, _], [_], _, _ => BindsTo.of_eq rfl,
    f_law_roll := f34,
    d_law_roll := _,
    F_law_roll := fun_mk (st := s_law_roll) l34 c34 k34,
    m_law_roll := PySem.W.mg_of X G a34,
    k_law_roll := k34,
    b_law_roll := (fun_mk (st := s_law_roll) l34 c34 k34).binds fun _ _ _ _ _ _ us hl => match us, hl with | [_, _], _ => rfl,
    f_law_pick := f35,
    d_law_pick := _,
    F_law_pick := fun_mk (st := s_law_pick) l35 c35 k35,
    m_law_pick := PySem.W.mg_of X G a35,
    k_law_pick := k35,
    b_law_pick := (fun_mk (st := s_law_pick) l35 c35 k35).binds fun _ _ _ _ _ _ us hl => match us, hl with | [_, _], _ => rfl,
    f_law_word := f36,
    d_law_word := _,
    F_law_word := fun_mk (st := s_law_word) l36 c36 k36,
    m_law_word := PySem.W.mg_of X G a36,
    k_law_word := k36,
    b_law_word := (fun_mk (st := s_law_word) l36 c36 k36).binds fun _ _ _ _ _ _ us hl => match us, hl with | [_], _ => rfl,
    f_law_right := f37,
    d_law_right := _,
    F_law_right := fun_mk (st := s_law_right) l37 c37 k37,
    m_law_right := PySem.W.mg_of X G a37,
    k_law_right := k37,
    b_law_right := (fun_mk (st := s_law_right) l37 c37 k37).binds fun _ _ _ _ _ _ us hl => match us, hl with | [_, _, _], _ => rfl,
    f_law := fa,
    d_law := _,
    F_law := fun_mk (st := s_law) l38 c38 k38,
    m_law := PySem.W.mg_of X G a38,
    k_law := k38,
    b_law := (fun_mk (st := s_law) l38 c38 k38).binds fun _ _ _ _ _ _ us hl => match us, hl with | [_], _ => rfl,
    ml_is_run_packings := PySem.W.mg_of X G ml_is_run_packings,
    ml_lot_of_rules := PySem.W.mg_of X G ml_lot_of_rules,
    c_law_right := cc37,
    P_law_right := tP37,
    cd_law_right := rfl,
    tb_law_right := TB _ List.mem_cons_self,
    tm_law_right := List.mem_cons_self,
    tu_law_right := tabs_u (T := [(tP37, ("_law_right.<locals>.<lambda>" : Str))]) hND (p := (tP37, "_law_right.<locals>.<lambda>")) List.mem_cons_self,
    z_abs := PySem.W.mg_none_of X G z_abs,
    z_all := PySem.W.mg_none_of X G z_all,
    z_bool := PySem.W.mg_none_of X G z_bool,
    z_dict := PySem.W.mg_none_of X G z_dict,
    z_enumerate := PySem.W.mg_none_of X G z_enumerate,
    z_int := PySem.W.mg_none_of X G z_int,
    z_isinstance := PySem.W.mg_none_of X G z_isinstance,
    z_len := PySem.W.mg_none_of X G z_len,
    z_list := PySem.W.mg_none_of X G z_list,
    z_max := PySem.W.mg_none_of X G z_max,
    z_min := PySem.W.mg_none_of X G z_min,
    z_range := PySem.W.mg_none_of X G z_range,
    z_sorted := PySem.W.mg_none_of X G z_sorted,
    z_str := PySem.W.mg_none_of X G z_str,
    z_sum := PySem.W.mg_none_of X G z_sum,
    z_tuple := PySem.W.mg_none_of X G z_tuple,
    z_zip := PySem.W.mg_none_of X G z_zip,
    t_FIRST := t_FIRST,
    g_FIRST := PySem.W.mg_of X G g_FIRST,
    t_LAST := t_LAST,
    g_LAST := PySem.W.mg_of X G g_LAST,
    t_LIMIT := t_LIMIT,
    g_LIMIT := PySem.W.mg_of X G g_LIMIT,
    t_MAX_ROW := t_MAX_ROW,
    g_MAX_ROW := PySem.W.mg_of X G g_MAX_ROW,
    t_MAX_RUNS_packings := t_MAX_RUNS_packings,
    g_MAX_RUNS_packings := PySem.W.mg_of X G g_MAX_RUNS_packings,
    t_MAX_RUNS_stores := t_MAX_RUNS_stores,
    g_MAX_RUNS_stores := PySem.W.mg_of X G g_MAX_RUNS_stores,
    t_MAX_SIZES_lots := t_MAX_SIZES_lots,
    g_MAX_SIZES_lots := PySem.W.mg_of X G g_MAX_SIZES_lots,
    t_MAX_SIZES_packings := t_MAX_SIZES_packings,
    g_MAX_SIZES_packings := PySem.W.mg_of X G g_MAX_SIZES_packings,
    t_MAX_SIZES_rules := t_MAX_SIZES_rules,
    g_MAX_SIZES_rules := PySem.W.mg_of X G g_MAX_SIZES_rules,
    t_MAX_STORE := t_MAX_STORE,
    g_MAX_STORE := PySem.W.mg_of X G g_MAX_STORE,
    a_RULES := aRULES,
    tk_RULES := tk_RULES,
    g_RULES := PySem.W.mg_of X G g_RULES,
    t_TIGHTEST := t_TIGHTEST,
    g_TIGHTEST := PySem.W.mg_of X G g_TIGHTEST }
  exact ok_law T
end DL.Law
namespace DL.Law
open DL
open PySem PySem.Spec PyProof.Rows L2
theorem head_mk {q : Program} {l : PySem.W.OpenLaw} {w : World} {K : PySem.W.Frag} {h : Heap} {mg : Str → Option Value} {fa : Addr} (X : K.In h) (G : h.Ns mainGlobals mg) (hfa : mg "law" = some (.ref fa)) (c : DL.SaysM FNS EX K)
    (tr37 : ((recsOf q).any fun e => e.name == "_law_right") = true) :
    ∃ (TT : List (Addr × Str)) (cs : List (Addr × Addr)), (∀ p ∈ TT, p.1 ∈ cs.map (·.2)) ∧ (∀ p ∈ cs, ∃ dn fc, LamAt K mg q dn fc p.1 p.2) ∧ ∀ base : Heap, K.In base → base.Ns mainGlobals mg → (∀ p ∈ cs, LamX.TabB base mg p.1 p.2) → @FnD ⟨TT⟩ l.prog w K mg base 13 fa m_law := by
  have n_Packing : PySem.W.nsIn K mainGlobals "Packing" = some (some (.ref (He.ga K "Packing"))) := of_decide_eq_true (c.b 0)
  have s1_Packing : PySem.W.plainGet K (He.ga K "Packing") Str.empty = true := (c.b 1)
  have s2_Packing : PySem.W.isClsIn K (He.ga K "Packing") = true := (c.b 2)
  have s3_Packing : PySem.W.plainOver K (He.ga K "Packing") = true := (c.b 3)
  have s4_Packing : PySem.W.findIn K (.ref (He.ga K "Packing")) "__setattr__" = some (some (.builtin "object.__setattr__")) := of_decide_eq_true (c.b 4)
  have t1_Packing : PySem.W.findIn K (.ref (He.ga K "Packing")) "own_runs" = some (some (.ref (He.ma K (He.ga K "Packing") "own_runs"))) := of_decide_eq_true (c.b 5)
  have t2_Packing : PySem.W.specialIn K (.ref (He.ma K (He.ga K "Packing") "own_runs")) "__get__" = some (some (.builtin "member_descriptor.__get__")) := of_decide_eq_true (c.b 6)
  have t3_Packing : PySem.W.takesIn K (.ref (He.ma K (He.ga K "Packing") "own_runs")) = some true := of_decide_eq_true (c.b 7)
  have t4_Packing : PySem.W.typeIn K (.ref (He.ma K (He.ga K "Packing") "own_runs")) = some (.type "member_descriptor") := of_decide_eq_true (c.b 8)
  have t5_Packing : PySem.W.slotIn K (He.ma K (He.ga K "Packing") "own_runs") (He.ga K "Packing") = some 0 := of_decide_eq_true (c.b 9)
  have u1_Packing : PySem.W.findIn K (.ref (He.ga K "Packing")) "__class__" = some (some (.builtin "object.__class__")) := of_decide_eq_true (c.b 10)
  have u2_Packing : PySem.W.specialIn K (.builtin "object.__class__") "__get__" = some (some (.builtin "getset_descriptor.__get__")) := of_decide_eq_true (c.b 11)
  have u3_Packing : PySem.W.takesIn K (.builtin "object.__class__") = some true := of_decide_eq_true (c.b 12)
  have u4_Packing : PySem.W.mroIn K (He.ga K "Packing") (.type "object") = some true := of_decide_eq_true (c.b 13)
  have n_Counted : PySem.W.nsIn K mainGlobals "Counted" = some (some (.ref (He.ga K "Counted"))) := of_decide_eq_true (c.b 14)
  have ct_Counted : insTyB K (He.ga K "Counted") = true := (c.b 15)
  have ki_Counted : kitAll K (He.ga K "Counted") = true := (c.b 16)
  have n_Filler : PySem.W.nsIn K mainGlobals "Filler" = some (some (.ref (He.ga K "Filler"))) := of_decide_eq_true (c.b 17)
  have ct_Filler : insTyB K (He.ga K "Filler") = true := (c.b 18)
  have n_Lot : PySem.W.nsIn K mainGlobals "Lot" = some (some (.ref (He.ga K "Lot"))) := of_decide_eq_true (c.b 19)
  have ct_Lot : insTyB K (He.ga K "Lot") = true := (c.b 20)
  have ki_Lot : kitAll K (He.ga K "Lot") = true := (c.b 21)
  have n_Row : PySem.W.nsIn K mainGlobals "Row" = some (some (.ref (He.ga K "Row"))) := of_decide_eq_true (c.b 22)
  have ct_Row : insTyB K (He.ga K "Row") = true := (c.b 23)
  have ki_Row : kitAll K (He.ga K "Row") = true := (c.b 24)
  have n_Store : PySem.W.nsIn K mainGlobals "Store" = some (some (.ref (He.ga K "Store"))) := of_decide_eq_true (c.b 25)
  have ct_Store : insTyB K (He.ga K "Store") = true := (c.b 26)
  have ki_Store : kitAll K (He.ga K "Store") = true := (c.b 27)
  have kk2 : (([("Counted", (He.ga K "Counted")), ("Filler", (He.ga K "Filler")), ("Lot", (He.ga K "Lot")), ("Row", (He.ga K "Row")), ("Store", (He.ga K "Store"))] : List (Str × Addr)).all fun p => ([("Counted", (He.ga K "Counted")), ("Filler", (He.ga K "Filler")), ("Lot", (He.ga K "Lot")), ("Row", (He.ga K "Row")), ("Store", (He.ga K "Store"))] : List (Str × Addr)).all fun q => decide (PySem.W.kitOne K (.ref p.2) (.ref q.2) = some (decide (p.1 = q.1)))) = true := (c.b 28)
  have kk3 : (([("Counted", (He.ga K "Counted")), ("Filler", (He.ga K "Filler")), ("Lot", (He.ga K "Lot")), ("Row", (He.ga K "Row")), ("Store", (He.ga K "Store"))] : List (Str × Addr)).all fun p => insTyB K p.2) = true := (c.b 29)
  have kk4 : (([("Counted", (He.ga K "Counted")), ("Filler", (He.ga K "Filler")), ("Lot", (He.ga K "Lot")), ("Row", (He.ga K "Row")), ("Store", (He.ga K "Store"))] : List (Str × Addr)).all fun p => kitBack K p.2) = true := (c.b 30)
  have kk5 : (([("Counted", (He.ga K "Counted")), ("Filler", (He.ga K "Filler")), ("Lot", (He.ga K "Lot")), ("Row", (He.ga K "Row")), ("Store", (He.ga K "Store")), ("Packing", (He.ga K "Packing"))] : List (Str × Addr)).all fun p => ([("Counted", (He.ga K "Counted")), ("Filler", (He.ga K "Filler")), ("Lot", (He.ga K "Lot")), ("Row", (He.ga K "Row")), ("Store", (He.ga K "Store")), ("Packing", (He.ga K "Packing"))] : List (Str × Addr)).all fun q => decide (PySem.W.kitOne K (.ref p.2) (.ref q.2) = some (decide (p.1 = q.1)))) = true := (c.b 31)
  have no_Counted_own_counts : PySem.W.findIn K (.ref (He.ga K "Counted")) "own_counts" = some none := of_decide_eq_true (c.b 32)
  have no_Filler_own_runs : PySem.W.findIn K (.ref (He.ga K "Filler")) "own_runs" = some none := of_decide_eq_true (c.b 33)
  have no_Lot_own_counts : PySem.W.findIn K (.ref (He.ga K "Lot")) "own_counts" = some none := of_decide_eq_true (c.b 34)
  have no_Row_own_runs : PySem.W.findIn K (.ref (He.ga K "Row")) "own_runs" = some none := of_decide_eq_true (c.b 35)
  have no_Store_own_runs : PySem.W.findIn K (.ref (He.ga K "Store")) "own_runs" = some none := of_decide_eq_true (c.b 36)
  have n_InvalidLot : PySem.W.nsIn K mainGlobals "InvalidLot" = some (some (.ref (He.ga K "InvalidLot"))) := of_decide_eq_true (c.b 37)
  have xi_InvalidLot : PySem.W.excIn K (He.ga K "InvalidLot") [.type "ValueError", .type "Exception", .type "BaseException", .type "object"] "ValueError.__new__" = true := (c.b 38)
  have kp_InvalidLot : PySem.W.keepIn K (.ref (He.ga K "InvalidLot")) = true := (c.b 39)
  have sb_InvalidLot : PySem.W.subIn K (.ref (He.ga K "InvalidLot")) (.type "BaseException") = some true := of_decide_eq_true (c.b 40)
  have ty_InvalidLot : PySem.W.typeIn K (.ref (He.ga K "InvalidLot")) = some (.type "type") := of_decide_eq_true (c.b 41)
  have n_InvalidOperation : PySem.W.nsIn K mainGlobals "InvalidOperation" = some (some (.ref (He.ga K "InvalidOperation"))) := of_decide_eq_true (c.b 42)
  have xi_InvalidOperation : PySem.W.excIn K (He.ga K "InvalidOperation") [.type "ValueError", .type "Exception", .type "BaseException", .type "object"] "ValueError.__new__" = true := (c.b 43)
  have kp_InvalidOperation : PySem.W.keepIn K (.ref (He.ga K "InvalidOperation")) = true := (c.b 44)
  have sb_InvalidOperation : PySem.W.subIn K (.ref (He.ga K "InvalidOperation")) (.type "BaseException") = some true := of_decide_eq_true (c.b 45)
  have ty_InvalidOperation : PySem.W.typeIn K (.ref (He.ga K "InvalidOperation")) = some (.type "type") := of_decide_eq_true (c.b 46)
  have n_InvalidPacking : PySem.W.nsIn K mainGlobals "InvalidPacking" = some (some (.ref (He.ga K "InvalidPacking"))) := of_decide_eq_true (c.b 47)
  have xi_InvalidPacking : PySem.W.excIn K (He.ga K "InvalidPacking") [.type "ValueError", .type "Exception", .type "BaseException", .type "object"] "ValueError.__new__" = true := (c.b 48)
  have kp_InvalidPacking : PySem.W.keepIn K (.ref (He.ga K "InvalidPacking")) = true := (c.b 49)
  have sb_InvalidPacking : PySem.W.subIn K (.ref (He.ga K "InvalidPacking")) (.type "BaseException") = some true := of_decide_eq_true (c.b 50)
  have ty_InvalidPacking : PySem.W.typeIn K (.ref (He.ga K "InvalidPacking")) = some (.type "type") := of_decide_eq_true (c.b 51)
  have n_InvalidStore : PySem.W.nsIn K mainGlobals "InvalidStore" = some (some (.ref (He.ga K "InvalidStore"))) := of_decide_eq_true (c.b 52)
  have xi_InvalidStore : PySem.W.excIn K (He.ga K "InvalidStore") [.type "ValueError", .type "Exception", .type "BaseException", .type "object"] "ValueError.__new__" = true := (c.b 53)
  have kp_InvalidStore : PySem.W.keepIn K (.ref (He.ga K "InvalidStore")) = true := (c.b 54)
  have sb_InvalidStore : PySem.W.subIn K (.ref (He.ga K "InvalidStore")) (.type "BaseException") = some true := of_decide_eq_true (c.b 55)
  have ty_InvalidStore : PySem.W.typeIn K (.ref (He.ga K "InvalidStore")) = some (.type "type") := of_decide_eq_true (c.b 56)
  have hx : (([("InvalidLot", (He.ga K "InvalidLot")), ("InvalidOperation", (He.ga K "InvalidOperation")), ("InvalidPacking", (He.ga K "InvalidPacking")), ("InvalidStore", (He.ga K "InvalidStore"))] : List (Str × Addr)).all fun p => ([("InvalidLot", (He.ga K "InvalidLot")), ("InvalidOperation", (He.ga K "InvalidOperation")), ("InvalidPacking", (He.ga K "InvalidPacking")), ("InvalidStore", (He.ga K "InvalidStore"))] : List (Str × Addr)).all fun q => decide (PySem.W.exmOne K (.ref p.2) (.ref q.2) = some (xisa p.1 q.1))) = true := (c.b 57)
  have a0 : PySem.W.nsIn K mainGlobals "is_integer" = some (some (.ref (He.ga K "is_integer"))) := of_decide_eq_true (c.b 58)
  have v0 : DL.fnV K (He.ga K "is_integer") = (some ("is_integer", "is_integer", (defArgs s_is_integer), .stmts (defBody s_is_integer), (defScope s_is_integer), mainGlobals, [], builtinsNs) : He.FnW) := c.f 0 (d := fd0)
  obtain ⟨oc0, od0, kV0, dc0, pm0, an0, cd0, ct0, sl0, l0, c0⟩ := DL.fn_ok0 v0 (c.b 59)
  have k0 : PySem.W.keepIn K (.ref (He.ga K "is_integer")) = true := (c.b 60)
  have a1 : PySem.W.nsIn K mainGlobals "is_size" = some (some (.ref (He.ga K "is_size"))) := of_decide_eq_true (c.b 61)
  have v1 : DL.fnV K (He.ga K "is_size") = (some ("is_size", "is_size", (defArgs s_is_size), .stmts (defBody s_is_size), (defScope s_is_size), mainGlobals, [], builtinsNs) : He.FnW) := c.f 1 (d := fd1)
  obtain ⟨oc1, od1, kV1, dc1, pm1, an1, cd1, ct1, sl1, l1, c1⟩ := DL.fn_ok0 v1 (c.b 62)
  have k1 : PySem.W.keepIn K (.ref (He.ga K "is_size")) = true := (c.b 63)
  have a2 : PySem.W.nsIn K mainGlobals "is_table" = some (some (.ref (He.ga K "is_table"))) := of_decide_eq_true (c.b 64)
  have v2 : DL.fnV K (He.ga K "is_table") = (some ("is_table", "is_table", (defArgs s_is_table), .stmts (defBody s_is_table), (defScope s_is_table), mainGlobals, [], builtinsNs) : He.FnW) := c.f 2 (d := fd2)
  obtain ⟨oc2, od2, kV2, dc2, pm2, an2, cd2, ct2, sl2, l2, c2⟩ := DL.fn_ok0 v2 (c.b 65)
  have k2 : PySem.W.keepIn K (.ref (He.ga K "is_table")) = true := (c.b 66)
  have a3 : PySem.W.findIn K (.ref (He.ga K "Lot")) "__init__" = some (some (.ref (He.ma K (He.ga K "Lot") "__init__"))) := of_decide_eq_true (c.b 67)
  have i3 : PySem.W.isFn K (.ref (He.ma K (He.ga K "Lot") "__init__")) = true := (c.b 68)
  have mi_Lot : PySem.W.makesIn K (He.ga K "Lot") = true := (c.b 69)
  have mk_Lot : PySem.W.keepIn K (.ref (He.ga K "Lot")) = true := (c.b 70)
  have v3 : DL.fnV K (He.ma K (He.ga K "Lot") "__init__") = (some ("__init__", "Lot.__init__", (defArgs s_Lot_init), .stmts (defBody s_Lot_init), (defScope s_Lot_init), mainGlobals, [], builtinsNs) : He.FnW) := c.f 3 (d := fd3)
  obtain ⟨oc3, od3, kV3, dc3, pm3, an3, cd3, ct3, sl3, tc3, td3, tn3, ts3, l3, c3, lT3⟩ := DL.fn_ok1 v3 (c.b 71)
  have k3 : PySem.W.keepIn K (.ref (He.ma K (He.ga K "Lot") "__init__")) = true := (c.b 72)
  have a4 : PySem.W.nsIn K mainGlobals "is_run_stores" = some (some (.ref (He.ga K "is_run_stores"))) := of_decide_eq_true (c.b 73)
  have v4 : DL.fnV K (He.ga K "is_run_stores") = (some ("is_run", "is_run", (defArgs s_is_run_stores), .stmts (defBody s_is_run_stores), (defScope s_is_run_stores), mainGlobals, [], builtinsNs) : He.FnW) := c.f 4 (d := fd4)
  obtain ⟨oc4, od4, kV4, dc4, pm4, an4, cd4, ct4, sl4, l4, c4⟩ := DL.fn_ok0 v4 (c.b 74)
  have k4 : PySem.W.keepIn K (.ref (He.ga K "is_run_stores")) = true := (c.b 75)
  have a5 : PySem.W.nsIn K mainGlobals "merged" = some (some (.ref (He.ga K "merged"))) := of_decide_eq_true (c.b 76)
  have v5 : DL.fnV K (He.ga K "merged") = (some ("merged", "merged", (defArgs s_merged), .stmts (defBody s_merged), (defScope s_merged), mainGlobals, [], builtinsNs) : He.FnW) := c.f 5 (d := fd5)
  obtain ⟨oc5, od5, kV5, dc5, pm5, an5, cd5, ct5, sl5, l5, c5⟩ := DL.fn_ok0 v5 (c.b 77)
  have k5 : PySem.W.keepIn K (.ref (He.ga K "merged")) = true := (c.b 78)
  have a6 : PySem.W.findIn K (.ref (He.ga K "Store")) "__init__" = some (some (.ref (He.ma K (He.ga K "Store") "__init__"))) := of_decide_eq_true (c.b 79)
  have i6 : PySem.W.isFn K (.ref (He.ma K (He.ga K "Store") "__init__")) = true := (c.b 80)
  have mi_Store : PySem.W.makesIn K (He.ga K "Store") = true := (c.b 81)
  have mk_Store : PySem.W.keepIn K (.ref (He.ga K "Store")) = true := (c.b 82)
  have v6 : DL.fnV K (He.ma K (He.ga K "Store") "__init__") = (some ("__init__", "Store.__init__", (defArgs s_Store_init), .stmts (defBody s_Store_init), (defScope s_Store_init), mainGlobals, [], builtinsNs) : He.FnW) := c.f 6 (d := fd6)
  obtain ⟨oc6, od6, kV6, dc6, pm6, an6, cd6, ct6, sl6, l6, c6⟩ := DL.fn_ok0 v6 (c.b 83)
  have k6 : PySem.W.keepIn K (.ref (He.ma K (He.ga K "Store") "__init__")) = true := (c.b 84)
  have a7 : PySem.W.nsIn K mainGlobals "_law_dice" = some (some (.ref (He.ga K "_law_dice"))) := of_decide_eq_true (c.b 85)
  have v7 : DL.fnV K (He.ga K "_law_dice") = (some ("_law_dice", "_law_dice", (defArgs s_law_dice), .stmts (defBody s_law_dice), (defScope s_law_dice), mainGlobals, [], builtinsNs) : He.FnW) := c.f 7 (d := fd7)
  obtain ⟨oc7, od7, kV7, dc7, pm7, an7, cd7, ct7, sl7, l7, c7⟩ := DL.fn_ok0 v7 (c.b 86)
  have k7 : PySem.W.keepIn K (.ref (He.ga K "_law_dice")) = true := (c.b 87)
  have a8 : PySem.W.nsIn K mainGlobals "require_lot" = some (some (.ref (He.ga K "require_lot"))) := of_decide_eq_true (c.b 88)
  have v8 : DL.fnV K (He.ga K "require_lot") = (some ("require_lot", "require_lot", (defArgs s_require_lot), .stmts (defBody s_require_lot), (defScope s_require_lot), mainGlobals, [], builtinsNs) : He.FnW) := c.f 8 (d := fd8)
  obtain ⟨oc8, od8, kV8, dc8, pm8, an8, cd8, ct8, sl8, l8, c8⟩ := DL.fn_ok0 v8 (c.b 89)
  have k8 : PySem.W.keepIn K (.ref (He.ga K "require_lot")) = true := (c.b 90)
  have a9 : PySem.W.nsIn K mainGlobals "require_store" = some (some (.ref (He.ga K "require_store"))) := of_decide_eq_true (c.b 91)
  have v9 : DL.fnV K (He.ga K "require_store") = (some ("require_store", "require_store", (defArgs s_require_store), .stmts (defBody s_require_store), (defScope s_require_store), mainGlobals, [], builtinsNs) : He.FnW) := c.f 9 (d := fd9)
  obtain ⟨oc9, od9, kV9, dc9, pm9, an9, cd9, ct9, sl9, l9, c9⟩ := DL.fn_ok0 v9 (c.b 92)
  have k9 : PySem.W.keepIn K (.ref (He.ga K "require_store")) = true := (c.b 93)
  have a10 : PySem.W.nsIn K mainGlobals "is_greedy" = some (some (.ref (He.ga K "is_greedy"))) := of_decide_eq_true (c.b 94)
  have v10 : DL.fnV K (He.ga K "is_greedy") = (some ("is_greedy", "is_greedy", (defArgs s_is_greedy), .stmts (defBody s_is_greedy), (defScope s_is_greedy), mainGlobals, [], builtinsNs) : He.FnW) := c.f 10 (d := fd10)
  obtain ⟨oc10, od10, kV10, dc10, pm10, an10, cd10, ct10, sl10, l10, c10⟩ := DL.fn_ok0 v10 (c.b 95)
  have k10 : PySem.W.keepIn K (.ref (He.ga K "is_greedy")) = true := (c.b 96)
  have a11 : PySem.W.findIn K (.ref (He.ga K "Store")) "runs" = some (some (.ref (He.ma K (He.ga K "Store") "runs"))) := of_decide_eq_true (c.b 97)
  have pg11 : PySem.W.specialIn K (.ref (He.ma K (He.ga K "Store") "runs")) "__get__" = some (some (.builtin "property.__get__")) := of_decide_eq_true (c.b 98)
  have pt11 : PySem.W.takesIn K (.ref (He.ma K (He.ga K "Store") "runs")) = some true := of_decide_eq_true (c.b 99)
  obtain ⟨rs11, pc11⟩ := DL.pf_ok (c.b 100)
  have v11 : DL.fnV K (DL.pfOf K (He.ma K (He.ga K "Store") "runs")) = (some ("runs", "Store.runs", (defArgs s_Store_runs), .stmts (defBody s_Store_runs), (defScope s_Store_runs), mainGlobals, [], builtinsNs) : He.FnW) := c.f 11 (d := fd11)
  obtain ⟨oc11, od11, kV11, dc11, pm11, an11, cd11, ct11, sl11, l11, c11⟩ := DL.fn_ok0 v11 (c.b 101)
  have k11 : PySem.W.keepIn K (.ref (DL.pfOf K (He.ma K (He.ga K "Store") "runs"))) = true := (c.b 102)
  have a12 : PySem.W.findIn K (.ref (He.ga K "Filler")) "__init__" = some (some (.ref (He.ma K (He.ga K "Filler") "__init__"))) := of_decide_eq_true (c.b 103)
  have i12 : PySem.W.isFn K (.ref (He.ma K (He.ga K "Filler") "__init__")) = true := (c.b 104)
  have mi_Filler : PySem.W.makesIn K (He.ga K "Filler") = true := (c.b 105)
  have mk_Filler : PySem.W.keepIn K (.ref (He.ga K "Filler")) = true := (c.b 106)
  have v12 : DL.fnV K (He.ma K (He.ga K "Filler") "__init__") = (some ("__init__", "Filler.__init__", (defArgs s_Filler_init), .stmts (defBody s_Filler_init), (defScope s_Filler_init), mainGlobals, [], builtinsNs) : He.FnW) := c.f 12 (d := fd12)
  obtain ⟨oc12, od12, kV12, dc12, pm12, an12, cd12, ct12, sl12, l12, c12⟩ := DL.fn_ok0 v12 (c.b 107)
  have k12 : PySem.W.keepIn K (.ref (He.ma K (He.ga K "Filler") "__init__")) = true := (c.b 108)
  have a13 : PySem.W.nsIn K mainGlobals "is_filling" = some (some (.ref (He.ga K "is_filling"))) := of_decide_eq_true (c.b 109)
  have v13 : DL.fnV K (He.ga K "is_filling") = (some ("is_filling", "is_filling", (defArgs s_is_filling), .stmts (defBody s_is_filling), (defScope s_is_filling), mainGlobals, [], builtinsNs) : He.FnW) := c.f 13 (d := fd13)
  obtain ⟨oc13, od13, kV13, dc13, pm13, an13, cd13, ct13, sl13, l13, c13⟩ := DL.fn_ok0 v13 (c.b 110)
  have k13 : PySem.W.keepIn K (.ref (He.ga K "is_filling")) = true := (c.b 111)
  have a14 : PySem.W.nsIn K mainGlobals "load_in" = some (some (.ref (He.ga K "load_in"))) := of_decide_eq_true (c.b 112)
  have v14 : DL.fnV K (He.ga K "load_in") = (some ("load_in", "load_in", (defArgs s_load_in), .stmts (defBody s_load_in), (defScope s_load_in), mainGlobals, [], builtinsNs) : He.FnW) := c.f 14 (d := fd14)
  obtain ⟨oc14, od14, kV14, dc14, pm14, an14, cd14, ct14, sl14, l14, c14⟩ := DL.fn_ok0 v14 (c.b 113)
  have k14 : PySem.W.keepIn K (.ref (He.ga K "load_in")) = true := (c.b 114)
  have a15 : PySem.W.nsIn K mainGlobals "is_run" = some (some (.ref (He.ga K "is_run"))) := of_decide_eq_true (c.b 115)
  have v15 : DL.fnV K (He.ga K "is_run") = (some ("is_run", "is_run", (defArgs s_is_run), .stmts (defBody s_is_run), (defScope s_is_run), mainGlobals, [], builtinsNs) : He.FnW) := c.f 15 (d := fd15)
  obtain ⟨oc15, od15, kV15, dc15, pm15, an15, cd15, ct15, sl15, l15, c15⟩ := DL.fn_ok0 v15 (c.b 116)
  have k15 : PySem.W.keepIn K (.ref (He.ga K "is_run")) = true := (c.b 117)
  have a16 : PySem.W.nsIn K mainGlobals "joined_runs" = some (some (.ref (He.ga K "joined_runs"))) := of_decide_eq_true (c.b 118)
  have v16 : DL.fnV K (He.ga K "joined_runs") = (some ("joined_runs", "joined_runs", (defArgs s_joined_runs), .stmts (defBody s_joined_runs), (defScope s_joined_runs), mainGlobals, [], builtinsNs) : He.FnW) := c.f 16 (d := fd16)
  obtain ⟨oc16, od16, kV16, dc16, pm16, an16, cd16, ct16, sl16, l16, c16⟩ := DL.fn_ok0 v16 (c.b 119)
  have k16 : PySem.W.keepIn K (.ref (He.ga K "joined_runs")) = true := (c.b 120)
  have a17 : PySem.W.nsIn K mainGlobals "rooms_in" = some (some (.ref (He.ga K "rooms_in"))) := of_decide_eq_true (c.b 121)
  have v17 : DL.fnV K (He.ga K "rooms_in") = (some ("rooms_in", "rooms_in", (defArgs s_rooms_in), .stmts (defBody s_rooms_in), (defScope s_rooms_in), mainGlobals, [], builtinsNs) : He.FnW) := c.f 17 (d := fd17)
  obtain ⟨oc17, od17, kV17, dc17, pm17, an17, cd17, ct17, sl17, l17, c17⟩ := DL.fn_ok0 v17 (c.b 122)
  have k17 : PySem.W.keepIn K (.ref (He.ga K "rooms_in")) = true := (c.b 123)
  have a18 : PySem.W.nsIn K mainGlobals "sizes_in" = some (some (.ref (He.ga K "sizes_in"))) := of_decide_eq_true (c.b 124)
  have v18 : DL.fnV K (He.ga K "sizes_in") = (some ("sizes_in", "sizes_in", (defArgs s_sizes_in), .stmts (defBody s_sizes_in), (defScope s_sizes_in), mainGlobals, [], builtinsNs) : He.FnW) := c.f 18 (d := fd18)
  obtain ⟨oc18, od18, kV18, dc18, pm18, an18, cd18, ct18, sl18, l18, c18⟩ := DL.fn_ok0 v18 (c.b 125)
  have k18 : PySem.W.keepIn K (.ref (He.ga K "sizes_in")) = true := (c.b 126)
  have a19 : PySem.W.findIn K (.ref (He.ga K "Packing")) "__init__" = some (some (.ref (He.ma K (He.ga K "Packing") "__init__"))) := of_decide_eq_true (c.b 127)
  have i19 : PySem.W.isFn K (.ref (He.ma K (He.ga K "Packing") "__init__")) = true := (c.b 128)
  have mi_Packing : PySem.W.makesIn K (He.ga K "Packing") = true := (c.b 129)
  have mk_Packing : PySem.W.keepIn K (.ref (He.ga K "Packing")) = true := (c.b 130)
  have v19 : DL.fnV K (He.ma K (He.ga K "Packing") "__init__") = (some ("__init__", "Packing.__init__", (defArgs s_Packing_init), .stmts (defBody s_Packing_init), (defScope s_Packing_init), mainGlobals, [], builtinsNs) : He.FnW) := c.f 19 (d := fd19)
  obtain ⟨oc19, od19, kV19, dc19, pm19, an19, cd19, ct19, sl19, l19, c19⟩ := DL.fn_ok0 v19 (c.b 131)
  have k19 : PySem.W.keepIn K (.ref (He.ma K (He.ga K "Packing") "__init__")) = true := (c.b 132)
  have a20 : PySem.W.findIn K (.ref (He.ga K "Filler")) "packing" = some (some (.ref (He.ma K (He.ga K "Filler") "packing"))) := of_decide_eq_true (c.b 133)
  have i20 : PySem.W.isFn K (.ref (He.ma K (He.ga K "Filler") "packing")) = true := (c.b 134)
  have v20 : DL.fnV K (He.ma K (He.ga K "Filler") "packing") = (some ("packing", "Filler.packing", (defArgs s_Filler_packing), .stmts (defBody s_Filler_packing), (defScope s_Filler_packing), mainGlobals, [], builtinsNs) : He.FnW) := c.f 20 (d := fd20)
  obtain ⟨oc20, od20, kV20, dc20, pm20, an20, cd20, ct20, sl20, l20, c20⟩ := DL.fn_ok0 v20 (c.b 135)
  have k20 : PySem.W.keepIn K (.ref (He.ma K (He.ga K "Filler") "packing")) = true := (c.b 136)
  have a21 : PySem.W.findIn K (.ref (He.ga K "Filler")) "order" = some (some (.ref (He.ma K (He.ga K "Filler") "order"))) := of_decide_eq_true (c.b 137)
  have i21 : PySem.W.isFn K (.ref (He.ma K (He.ga K "Filler") "order")) = true := (c.b 138)
  have v21 : DL.fnV K (He.ma K (He.ga K "Filler") "order") = (some ("order", "Filler.order", (defArgs s_Filler_order), .stmts (defBody s_Filler_order), (defScope s_Filler_order), mainGlobals, [], builtinsNs) : He.FnW) := c.f 21 (d := fd21)
  obtain ⟨oc21, od21, kV21, dc21, pm21, an21, cd21, ct21, sl21, l21, c21⟩ := DL.fn_ok0 v21 (c.b 139)
  have k21 : PySem.W.keepIn K (.ref (He.ma K (He.ga K "Filler") "order")) = true := (c.b 140)
  have a22 : PySem.W.nsIn K mainGlobals "with_more" = some (some (.ref (He.ga K "with_more"))) := of_decide_eq_true (c.b 141)
  have v22 : DL.fnV K (He.ga K "with_more") = (some ("with_more", "with_more", (defArgs s_with_more), .stmts (defBody s_with_more), (defScope s_with_more), mainGlobals, [], builtinsNs) : He.FnW) := c.f 22 (d := fd22)
  obtain ⟨oc22, od22, kV22, dc22, pm22, an22, cd22, ct22, sl22, l22, c22⟩ := DL.fn_ok0 v22 (c.b 142)
  have k22 : PySem.W.keepIn K (.ref (He.ga K "with_more")) = true := (c.b 143)
  have a23 : PySem.W.nsIn K mainGlobals "filled" = some (some (.ref (He.ga K "filled"))) := of_decide_eq_true (c.b 144)
  have v23 : DL.fnV K (He.ga K "filled") = (some ("filled", "filled", (defArgs s_filled), .stmts (defBody s_filled), (defScope s_filled), mainGlobals, [], builtinsNs) : He.FnW) := c.f 23 (d := fd23)
  obtain ⟨oc23, od23, kV23, dc23, pm23, an23, cd23, ct23, sl23, l23, c23⟩ := DL.fn_ok0 v23 (c.b 145)
  have k23 : PySem.W.keepIn K (.ref (He.ga K "filled")) = true := (c.b 146)
  have a24 : PySem.W.findIn K (.ref (He.ga K "Filler")) "put_in" = some (some (.ref (He.ma K (He.ga K "Filler") "put_in"))) := of_decide_eq_true (c.b 147)
  have i24 : PySem.W.isFn K (.ref (He.ma K (He.ga K "Filler") "put_in")) = true := (c.b 148)
  have v24 : DL.fnV K (He.ma K (He.ga K "Filler") "put_in") = (some ("put_in", "Filler.put_in", (defArgs s_Filler_put_in), .stmts (defBody s_Filler_put_in), (defScope s_Filler_put_in), mainGlobals, [], builtinsNs) : He.FnW) := c.f 24 (d := fd24)
  obtain ⟨oc24, od24, kV24, dc24, pm24, an24, cd24, ct24, sl24, l24, c24⟩ := DL.fn_ok0 v24 (c.b 149)
  have k24 : PySem.W.keepIn K (.ref (He.ma K (He.ga K "Filler") "put_in")) = true := (c.b 150)
  have a25 : PySem.W.findIn K (.ref (He.ga K "Filler")) "put" = some (some (.ref (He.ma K (He.ga K "Filler") "put"))) := of_decide_eq_true (c.b 151)
  have i25 : PySem.W.isFn K (.ref (He.ma K (He.ga K "Filler") "put")) = true := (c.b 152)
  have v25 : DL.fnV K (He.ma K (He.ga K "Filler") "put") = (some ("put", "Filler.put", (defArgs s_Filler_put), .stmts (defBody s_Filler_put), (defScope s_Filler_put), mainGlobals, [], builtinsNs) : He.FnW) := c.f 25 (d := fd25)
  obtain ⟨oc25, od25, kV25, dc25, pm25, an25, cd25, ct25, sl25, l25, c25⟩ := DL.fn_ok0 v25 (c.b 153)
  have k25 : PySem.W.keepIn K (.ref (He.ma K (He.ga K "Filler") "put")) = true := (c.b 154)
  have a26 : PySem.W.nsIn K mainGlobals "is_row" = some (some (.ref (He.ga K "is_row"))) := of_decide_eq_true (c.b 155)
  have v26 : DL.fnV K (He.ga K "is_row") = (some ("is_row", "is_row", (defArgs s_is_row), .stmts (defBody s_is_row), (defScope s_is_row), mainGlobals, [], builtinsNs) : He.FnW) := c.f 26 (d := fd26)
  obtain ⟨oc26, od26, kV26, dc26, pm26, an26, cd26, ct26, sl26, l26, c26⟩ := DL.fn_ok0 v26 (c.b 156)
  have k26 : PySem.W.keepIn K (.ref (He.ga K "is_row")) = true := (c.b 157)
  have a27 : PySem.W.nsIn K mainGlobals "require_row" = some (some (.ref (He.ga K "require_row"))) := of_decide_eq_true (c.b 158)
  have v27 : DL.fnV K (He.ga K "require_row") = (some ("require_row", "require_row", (defArgs s_require_row), .stmts (defBody s_require_row), (defScope s_require_row), mainGlobals, [], builtinsNs) : He.FnW) := c.f 27 (d := fd27)
  obtain ⟨oc27, od27, kV27, dc27, pm27, an27, cd27, ct27, sl27, l27, c27⟩ := DL.fn_ok0 v27 (c.b 159)
  have k27 : PySem.W.keepIn K (.ref (He.ga K "require_row")) = true := (c.b 160)
  have a28 : PySem.W.nsIn K mainGlobals "pack_row" = some (some (.ref (He.ga K "pack_row"))) := of_decide_eq_true (c.b 161)
  have v28 : DL.fnV K (He.ga K "pack_row") = (some ("pack_row", "pack_row", (defArgs s_pack_row), .stmts (defBody s_pack_row), (defScope s_pack_row), mainGlobals, [], builtinsNs) : He.FnW) := c.f 28 (d := fd28)
  obtain ⟨oc28, od28, kV28, dc28, pm28, an28, cd28, ct28, sl28, l28, c28⟩ := DL.fn_ok0 v28 (c.b 162)
  have k28 : PySem.W.keepIn K (.ref (He.ga K "pack_row")) = true := (c.b 163)
  have a29 : PySem.W.nsIn K mainGlobals "is_taken" = some (some (.ref (He.ga K "is_taken"))) := of_decide_eq_true (c.b 164)
  have v29 : DL.fnV K (He.ga K "is_taken") = (some ("is_taken", "is_taken", (defArgs s_is_taken), .stmts (defBody s_is_taken), (defScope s_is_taken), mainGlobals, [], builtinsNs) : He.FnW) := c.f 29 (d := fd29)
  obtain ⟨oc29, od29, kV29, dc29, pm29, an29, cd29, ct29, sl29, l29, c29⟩ := DL.fn_ok0 v29 (c.b 165)
  have k29 : PySem.W.keepIn K (.ref (He.ga K "is_taken")) = true := (c.b 166)
  have a30 : PySem.W.nsIn K mainGlobals "lot_of" = some (some (.ref (He.ga K "lot_of"))) := of_decide_eq_true (c.b 167)
  have v30 : DL.fnV K (He.ga K "lot_of") = (some ("lot_of", "lot_of", (defArgs s_lot_of), .stmts (defBody s_lot_of), (defScope s_lot_of), mainGlobals, [], builtinsNs) : He.FnW) := c.f 30 (d := fd30)
  obtain ⟨oc30, od30, kV30, dc30, pm30, an30, cd30, ct30, sl30, l30, c30⟩ := DL.fn_ok0 v30 (c.b 168)
  have k30 : PySem.W.keepIn K (.ref (He.ga K "lot_of")) = true := (c.b 169)
  have a31 : PySem.W.findIn K (.ref (He.ga K "Lot")) "counts" = some (some (.ref (He.ma K (He.ga K "Lot") "counts"))) := of_decide_eq_true (c.b 170)
  have pg31 : PySem.W.specialIn K (.ref (He.ma K (He.ga K "Lot") "counts")) "__get__" = some (some (.builtin "property.__get__")) := of_decide_eq_true (c.b 171)
  have pt31 : PySem.W.takesIn K (.ref (He.ma K (He.ga K "Lot") "counts")) = some true := of_decide_eq_true (c.b 172)
  obtain ⟨rs31, pc31⟩ := DL.pf_ok (c.b 173)
  have v31 : DL.fnV K (DL.pfOf K (He.ma K (He.ga K "Lot") "counts")) = (some ("counts", "Lot.counts", (defArgs s_Lot_counts), .stmts (defBody s_Lot_counts), (defScope s_Lot_counts), mainGlobals, [], builtinsNs) : He.FnW) := c.f 31 (d := fd31)
  obtain ⟨oc31, od31, kV31, dc31, pm31, an31, cd31, ct31, sl31, l31, c31⟩ := DL.fn_ok0 v31 (c.b 174)
  have k31 : PySem.W.keepIn K (.ref (DL.pfOf K (He.ma K (He.ga K "Lot") "counts"))) = true := (c.b 175)
  have a32 : PySem.W.nsIn K mainGlobals "is_rule" = some (some (.ref (He.ga K "is_rule"))) := of_decide_eq_true (c.b 176)
  have v32 : DL.fnV K (He.ga K "is_rule") = (some ("is_rule", "is_rule", (defArgs s_is_rule), .stmts (defBody s_is_rule), (defScope s_is_rule), mainGlobals, [], builtinsNs) : He.FnW) := c.f 32 (d := fd32)
  obtain ⟨oc32, od32, kV32, dc32, pm32, an32, cd32, ct32, sl32, l32, c32⟩ := DL.fn_ok0 v32 (c.b 177)
  have k32 : PySem.W.keepIn K (.ref (He.ga K "is_rule")) = true := (c.b 178)
  have a33 : PySem.W.nsIn K mainGlobals "pack" = some (some (.ref (He.ga K "pack"))) := of_decide_eq_true (c.b 179)
  have v33 : DL.fnV K (He.ga K "pack") = (some ("pack", "pack", (defArgs s_pack), .stmts (defBody s_pack), (defScope s_pack), mainGlobals, [], builtinsNs) : He.FnW) := c.f 33 (d := fd33)
  obtain ⟨oc33, od33, kV33, dc33, pm33, an33, cd33, ct33, sl33, l33, c33⟩ := DL.fn_ok0 v33 (c.b 180)
  have k33 : PySem.W.keepIn K (.ref (He.ga K "pack")) = true := (c.b 181)
  have a34 : PySem.W.nsIn K mainGlobals "_law_roll" = some (some (.ref (He.ga K "_law_roll"))) := of_decide_eq_true (c.b 182)
  have v34 : DL.fnV K (He.ga K "_law_roll") = (some ("_law_roll", "_law_roll", (defArgs s_law_roll), .stmts (defBody s_law_roll), (defScope s_law_roll), mainGlobals, [], builtinsNs) : He.FnW) := c.f 34 (d := fd34)
  obtain ⟨oc34, od34, kV34, dc34, pm34, an34, cd34, ct34, sl34, l34, c34⟩ := DL.fn_ok0 v34 (c.b 183)
  have k34 : PySem.W.keepIn K (.ref (He.ga K "_law_roll")) = true := (c.b 184)
  have a35 : PySem.W.nsIn K mainGlobals "_law_pick" = some (some (.ref (He.ga K "_law_pick"))) := of_decide_eq_true (c.b 185)
  have v35 : DL.fnV K (He.ga K "_law_pick") = (some ("_law_pick", "_law_pick", (defArgs s_law_pick), .stmts (defBody s_law_pick), (defScope s_law_pick), mainGlobals, [], builtinsNs) : He.FnW) := c.f 35 (d := fd35)
  obtain ⟨oc35, od35, kV35, dc35, pm35, an35, cd35, ct35, sl35, l35, c35⟩ := DL.fn_ok0 v35 (c.b 186)
  have k35 : PySem.W.keepIn K (.ref (He.ga K "_law_pick")) = true := (c.b 187)
  have a36 : PySem.W.nsIn K mainGlobals "_law_word" = some (some (.ref (He.ga K "_law_word"))) := of_decide_eq_true (c.b 188)
  have v36 : DL.fnV K (He.ga K "_law_word") = (some ("_law_word", "_law_word", (defArgs s_law_word), .stmts (defBody s_law_word), (defScope s_law_word), mainGlobals, [], builtinsNs) : He.FnW) := c.f 36 (d := fd36)
  obtain ⟨oc36, od36, kV36, dc36, pm36, an36, cd36, ct36, sl36, l36, c36⟩ := DL.fn_ok0 v36 (c.b 189)
  have k36 : PySem.W.keepIn K (.ref (He.ga K "_law_word")) = true := (c.b 190)
  have a37 : PySem.W.nsIn K mainGlobals "_law_right" = some (some (.ref (He.ga K "_law_right"))) := of_decide_eq_true (c.b 191)
  have v37 : DL.fnV K (He.ga K "_law_right") = (some ("_law_right", "_law_right", (defArgs s_law_right), .stmts (defBody s_law_right), (defScope s_law_right), mainGlobals, [], builtinsNs) : He.FnW) := c.f 37 (d := fd37)
  obtain ⟨oc37, od37, kV37, dc37, pm37, an37, ct37, sl37, te37, td37, tv37, tl37, l37, c37, tc37, tp37, tn37⟩ := DL.fn_okU v37 (c.b 192)
  have k37 : PySem.W.keepIn K (.ref (He.ga K "_law_right")) = true := (c.b 193)
  have a38 : PySem.W.nsIn K mainGlobals "law" = some (some (.ref (He.ga K "law"))) := of_decide_eq_true (c.b 194)
  have v38 : DL.fnV K (He.ga K "law") = (some ("law", "law", (defArgs s_law), .stmts (defBody s_law), (defScope s_law), mainGlobals, [], builtinsNs) : He.FnW) := c.f 38 (d := fd38)
  obtain ⟨oc38, od38, kV38, dc38, pm38, an38, cd38, ct38, sl38, l38, c38⟩ := DL.fn_ok0 v38 (c.b 195)
  have k38 : PySem.W.keepIn K (.ref (He.ga K "law")) = true := (c.b 196)
  have ml_is_run_packings : PySem.W.nsIn K mainGlobals "is_run_packings" = some (some (.ref (He.ga K "is_run"))) := of_decide_eq_true (c.b 197)
  have ml_lot_of_rules : PySem.W.nsIn K mainGlobals "lot_of_rules" = some (some (.ref (He.ga K "lot_of"))) := of_decide_eq_true (c.b 198)
  have z_abs : PySem.W.nsIn K mainGlobals "abs" = some none := of_decide_eq_true (c.b 199)
  have z_all : PySem.W.nsIn K mainGlobals "all" = some none := of_decide_eq_true (c.b 200)
  have z_bool : PySem.W.nsIn K mainGlobals "bool" = some none := of_decide_eq_true (c.b 201)
  have z_dict : PySem.W.nsIn K mainGlobals "dict" = some none := of_decide_eq_true (c.b 202)
  have z_enumerate : PySem.W.nsIn K mainGlobals "enumerate" = some none := of_decide_eq_true (c.b 203)
  have z_int : PySem.W.nsIn K mainGlobals "int" = some none := of_decide_eq_true (c.b 204)
  have z_isinstance : PySem.W.nsIn K mainGlobals "isinstance" = some none := of_decide_eq_true (c.b 205)
  have z_len : PySem.W.nsIn K mainGlobals "len" = some none := of_decide_eq_true (c.b 206)
  have z_list : PySem.W.nsIn K mainGlobals "list" = some none := of_decide_eq_true (c.b 207)
  have z_max : PySem.W.nsIn K mainGlobals "max" = some none := of_decide_eq_true (c.b 208)
  have z_min : PySem.W.nsIn K mainGlobals "min" = some none := of_decide_eq_true (c.b 209)
  have z_range : PySem.W.nsIn K mainGlobals "range" = some none := of_decide_eq_true (c.b 210)
  have z_sorted : PySem.W.nsIn K mainGlobals "sorted" = some none := of_decide_eq_true (c.b 211)
  have z_str : PySem.W.nsIn K mainGlobals "str" = some none := of_decide_eq_true (c.b 212)
  have z_sum : PySem.W.nsIn K mainGlobals "sum" = some none := of_decide_eq_true (c.b 213)
  have z_tuple : PySem.W.nsIn K mainGlobals "tuple" = some none := of_decide_eq_true (c.b 214)
  have z_zip : PySem.W.nsIn K mainGlobals "zip" = some none := of_decide_eq_true (c.b 215)
  obtain ⟨t_FIRST, g_FIRST⟩ := DL.cs_ok (c.b 216)
  obtain ⟨t_LAST, g_LAST⟩ := DL.cs_ok (c.b 217)
  obtain ⟨t_LIMIT, g_LIMIT⟩ := DL.ci_ok (c.b 218)
  obtain ⟨t_MAX_ROW, g_MAX_ROW⟩ := DL.ci_ok (c.b 219)
  obtain ⟨t_MAX_RUNS_packings, g_MAX_RUNS_packings⟩ := DL.ci_ok (c.b 220)
  obtain ⟨t_MAX_RUNS_stores, g_MAX_RUNS_stores⟩ := DL.ci_ok (c.b 221)
  obtain ⟨t_MAX_SIZES_lots, g_MAX_SIZES_lots⟩ := DL.ci_ok (c.b 222)
  obtain ⟨t_MAX_SIZES_packings, g_MAX_SIZES_packings⟩ := DL.ci_ok (c.b 223)
  obtain ⟨t_MAX_SIZES_rules, g_MAX_SIZES_rules⟩ := DL.ci_ok (c.b 224)
  obtain ⟨t_MAX_STORE, g_MAX_STORE⟩ := DL.ci_ok (c.b 225)
  have g_RULES : PySem.W.nsIn K mainGlobals "RULES" = some (some (.ref (DL.ctOf K "RULES"))) := of_decide_eq_true (c.b 226)
  have tk_RULES : CT K (DL.ctOf K "RULES") ["first", "last", "tightest"] := DL.ct_ok (c.b 227)
  obtain ⟨t_TIGHTEST, g_TIGHTEST⟩ := DL.cs_ok (c.b 228)
  exact all_mk X G hfa n_Packing s1_Packing s2_Packing s3_Packing s4_Packing t1_Packing t2_Packing t3_Packing t4_Packing t5_Packing u1_Packing u2_Packing u3_Packing u4_Packing n_Counted ct_Counted ki_Counted n_Filler ct_Filler n_Lot ct_Lot ki_Lot n_Row ct_Row ki_Row n_Store ct_Store ki_Store kk2 kk3 kk4 kk5 no_Counted_own_counts no_Filler_own_runs no_Lot_own_counts no_Row_own_runs no_Store_own_runs n_InvalidLot xi_InvalidLot kp_InvalidLot sb_InvalidLot ty_InvalidLot n_InvalidOperation xi_InvalidOperation kp_InvalidOperation sb_InvalidOperation ty_InvalidOperation n_InvalidPacking xi_InvalidPacking kp_InvalidPacking sb_InvalidPacking ty_InvalidPacking n_InvalidStore xi_InvalidStore kp_InvalidStore sb_InvalidStore ty_InvalidStore hx a0 l0 c0 k0 a1 l1 c1 k1 a2 l2 c2 k2 a3 i3 mi_Lot mk_Lot l3 c3 k3 lT3 a4 l4 c4 k4 a5 l5 c5 k5 a6 i6 mi_Store mk_Store l6 c6 k6 a7 l7 c7 k7 a8 l8 c8 k8 a9 l9 c9 k9 a10 l10 c10 k10 a11 pg11 pt11 pc11 l11 c11 k11 a12 i12 mi_Filler mk_Filler l12 c12 k12 a13 l13 c13 k13 a14 l14 c14 k14 a15 l15 c15 k15 a16 l16 c16 k16 a17 l17 c17 k17 a18 l18 c18 k18 a19 i19 mi_Packing mk_Packing l19 c19 k19 a20 i20 l20 c20 k20 a21 i21 l21 c21 k21 a22 l22 c22 k22 a23 l23 c23 k23 a24 i24 l24 c24 k24 a25 i25 l25 c25 k25 a26 l26 c26 k26 a27 l27 c27 k27 a28 l28 c28 k28 a29 l29 c29 k29 a30 l30 c30 k30 a31 pg31 pt31 pc31 l31 c31 k31 a32 l32 c32 k32 a33 l33 c33 k33 a34 l34 c34 k34 a35 l35 c35 k35 a36 l36 c36 k36 a37 l37 c37 k37 tc37 tp37 tn37 tr37 a38 l38 c38 k38 ml_is_run_packings ml_lot_of_rules z_abs z_all z_bool z_dict z_enumerate z_int z_isinstance z_len z_list z_max z_min z_range z_sorted z_str z_sum z_tuple z_zip g_FIRST g_LAST g_LIMIT g_MAX_ROW g_MAX_RUNS_packings g_MAX_RUNS_stores g_MAX_SIZES_lots g_MAX_SIZES_packings g_MAX_SIZES_rules g_MAX_STORE g_RULES tk_RULES g_TIGHTEST (of_decide_eq_true (c.b 229))
end DL.Law
open PySem PySem.W PyProof.Rows
set_option maxRecDepth 100000 in
set_option maxHeartbeats 0 in
theorem PySem.Challenge.cw_chainpacks_k30_errors_of_rules_holds : PySem.Challenge.rw_chainpacks_k30_errors_of_rules.Holds := by
  w_on; o_law
  refine HandSHeadRun.head_any (r := PySem.W.OpenLaw.row PySem.Challenge.rw_chainpacks_k30_errors_of_rules) (q := PySem.W.view (PySem.W.OpenLaw.row PySem.Challenge.rw_chainpacks_k30_errors_of_rules).prog [72, 73]) (H := DL.Law.hk) (ob := DL.obM 0 DL.Law.FNS DL.Law.EX) (M := 40000) (loose := DL.Law.loose) (d := HandSHeadRun.topDef (PySem.W.OpenLaw.row PySem.Challenge.rw_chainpacks_k30_errors_of_rules).prog 73) (kwd := []) DL.obM_eq
    (by kernel_rfl) (fun s => by kernel_rfl) DL.Law.run (by kernel_rfl) (by kernel_rfl) (by kernel_rfl) (by rfl) (by first | assumption | decide +kernel) (by decide +kernel) ⟨rfl, rfl, rfl, rfl, rfl, by decide +kernel⟩ ?hw ?hc
  case hw => w_witness2
  case hc =>
    refine DL.walkDEU (l := PySem.Challenge.rw_chainpacks_k30_errors_of_rules) (m := DL.Law.m_law) (k := 13) (by decide +kernel) rfl (by kernel_rfl) ⟨rfl, by decide, by decide⟩ (@DL.Law.law_true ⟨[]⟩) ?F
    intro w mg fa h Y G hmg0
    obtain ⟨K, KX, c⟩ := Y
    have hmg : mg ("law" : PySem.Str) = some (.ref fa) := by
      have e : (HandSHeadRun.topDef (PySem.W.OpenLaw.row PySem.Challenge.rw_chainpacks_k30_errors_of_rules).prog 73).name = ("law" : PySem.Str) := by kernel_rfl
      rw [← e]
      exact hmg0
    exact ⟨K, KX, DL.Law.head_mk KX G hmg c (by decide +kernel)⟩
#print axioms PySem.Challenge.cw_chainpacks_k30_errors_of_rules_holds
