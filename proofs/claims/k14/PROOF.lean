import PyProof.Rows.All
import Wide.All
import OpenK.AllK
import Wide.FinOn
import HandS.Base
import HandS.Call
import HandS.List
import HandS.Comp
import HandS.Words
import HandS.Exc
import HandS.Lambda
import HandS.ExcOwn
import HandS.Iter
import HandS.Zip
import HandS.Dict
import HandS.WordsExc
import HandS.Star
import HandS.TupAny
import HandS.Text
import HandS.Wide
import HandS.IsInst
import HandS.SortInts
import HandS.Deep
import HandS.RaiseMore
import HandS.Style
import PyProof.ReprRoads
import HandS.Ends
import HandS.Conv
import HandS.Strs
import HandS.SetFor
import KE.KRevSl
import KE.GoesEnum
import HandS.TupLe
import KE.DataMinKey
import HandS.Property
import HandS.ExcField
import PyProof.ExcBaseAll.IndexError
import PyProof.ExcBaseAll.OverflowError
import PyProof.ExcBaseAll.ArithmeticError
import PyProof.ExcBaseAll.LookupError
import PyProof.ExcBaseAll.RuntimeError
import HandS.DictComp
import HandS.ListItems
import HandS.Keys
import KE.KCallOwn
import HandS.OwnEq
import KE.KOpsOwn
import HandS.SlotsOwn
import HandS.Defaults
import HandS.FStr
import KE.GoesMore
import PyProof.EnumFor
import HandS.TupSets
import HandS.EndTab
import HandS.TupMul
import HandS.TryOnly
import KE.KStateDown
import HandS.Head0
import HandS.Head1
import HandS.Head2
import HandS.HeadHook1
import HandS.HeadHook2
import HandS.HeadHook4
import KE.DatumOrd
import HandS.SortRule
import KE.DataMinMax
import KE.KEqNest
import HandS.ListEq
import HandS.DictEq
import HandS.DeepEq
import HandS.Flow
import KE.KDictZip
import KE.KTupSum
import HandS.OwnIter
import HandS.IterVal
import PySem.Challenge.RW_chainpacks_k14_stores_told
set_option Elab.async false
set_option linter.all false
set_option maxRecDepth 100000
set_option maxHeartbeats 4000000
/-! DL1: the data layer. Values as trees (D), what stands for them in the heap (Rep), a frame's names as data (EnvD), the judgements DE, DT, DS. -/
namespace DL
open PySem PySem.Spec PyProof.Rows L2
def isTbl : HO → Bool
  | .tbl _ => true
  | _ => false
/-- what is tracked stays, tables of code objects apart -/
structure Grow (H H' : Hp) : Prop where
  get : ∀ b o, H b = some o → isTbl o = false → H' b = some o
/-- what is neither a table nor a code object -/
def isTup : HO → Bool
  | .tup _ => true
  | _ => false
def Plain (o : HO) : Prop := isTbl o = false ∧ (∀ c q, o ≠ LamX.CodeO c q) ∧ isTup o = false
def isExt : HO → Bool
  | .ext _ => true
  | _ => false
theorem plain_of {o : HO} (h : isTbl o = false := by rfl) (n : isExt o = false := by rfl) (t : isTup o = false := by rfl) : Plain o := ⟨h, fun c q z => (by rw [z] at n; cases n), t⟩
inductive D where
  | none | bool (b : Bool) | int (i : Int) | str (s : Str) | list (xs : List D) | tup (xs : List D)
  | dict (kvs : List (Key × D)) | tdict (kvs : List (List Key × D)) | dice | script (ns : List Int) | opq (a : Addr) (Hc : Hp) | ty (n : String)
  | fn (n : Str)
  | obj (n : Str) (fs : List (Str × D))
  | exc (a dd : Addr) (n f : Str) (d : D)
structure Er where
  cls : Str
  arg : Option (Str × D)
/-- the dice: a list of three ints, whatever they are -/
def DiceH (a : Addr) (h : Heap) : Prop := ∃ (i j k : Int) (t u w : Tok) (n : Nat), h.get? a = some { cls := .type "list", data := .seq #[.int i t, .int j u, .int k w] n }
def diceO (a : Addr) : HO := .ext (DiceH a)
mutual
inductive Rep (K : PySem.W.Frag) (H : Hp) : V → D → Prop
  | non : Rep K H .non .none
  | bool (b : Bool) : Rep K H (.bl b) (.bool b)
  | int (i : Int) : Rep K H (.int i) (.int i)
  | str (x : Str) : Rep K H (.str x) (.str x)
  | list {a : Addr} {xs : List V} {ds : List D} : H a = some (.lst xs) → xs.length ≤ sizeLine → Reps K H xs ds → Rep K H (.ref a) (.list ds)
  | tup {a : Addr} {xs : List V} {ds : List D} : SqT K H a xs → xs.length ≤ sizeLine → Reps K H xs ds → Rep K H (.ref a) (.tup ds)
  | dict {a : Addr} {od : Obj} {kvs : List (Key × V)} {ds : List (Key × D)} : H a = some (.frz od (.dK kvs)) → kvs.length ≤ sizeLine → RepKs K H kvs ds → Rep K H (.ref a) (.dict ds)
  | tdict {a : Addr} {od : Obj} {kvs : List (List Key × V)} {ds : List (List Key × D)} : H a = some (.frz od (.dT kvs)) → kvs.length ≤ sizeLine → kvs.map (·.1) = ds.map (·.1) → Reps K H (kvs.map (·.2)) (ds.map (·.2)) → Rep K H (.ref a) (.tdict ds)
  | obj {n : Str} {a C dx : Addr} {fs : List (Str × V)} {ds : List (Str × D)} : PySem.W.nsIn K mainGlobals n = some (some (.ref C)) → H a = some (.ins C dx fs) → RepFs K H fs ds → Rep K H (.ref a) (.obj n ds)
  | dice {a : Addr} : H a = some (diceO a) → Rep K H (.ref a) .dice
  | script {a : Addr} {ns : List Int} : SqL K H a (ns.map V.int) → ns.length ≤ sizeLine → Rep K H (.ref a) (.script ns)
  | opq {a : Addr} {Hc : Hp} : Grow Hc H → Rep K H (.ref a) (.opq a Hc)
  | ty (n : String) : Rep K H (.ty n) (.ty n)
  | fn {n : Str} {a : Addr} : PySem.W.nsIn K mainGlobals n = some (some (.ref a)) → Rep K H (.ref a) (.fn n)
  | exc {a dd C : Addr} {n f : Str} {v : V} {d : D} : PySem.W.nsIn K mainGlobals n = some (some (.ref C)) → H dd = some (.xd [(f, v)]) → Rep K H v d → Rep K H (.ref a) (.exc a dd n f d)
inductive Reps (K : PySem.W.Frag) (H : Hp) : List V → List D → Prop
  | nil : Reps K H [] []
  | cons {v : V} {vs : List V} {d : D} {ds : List D} : Rep K H v d → Reps K H vs ds → Reps K H (v :: vs) (d :: ds)
inductive RepKs (K : PySem.W.Frag) (H : Hp) : List (Key × V) → List (Key × D) → Prop
  | nil : RepKs K H [] []
  | cons {k : Key} {v : V} {vs : List (Key × V)} {d : D} {ds : List (Key × D)} : Rep K H v d → RepKs K H vs ds → RepKs K H ((k, v) :: vs) ((k, d) :: ds)
inductive RepFs (K : PySem.W.Frag) (H : Hp) : List (Str × V) → List (Str × D) → Prop
  | nil : RepFs K H [] []
  | cons {f : Str} {v : V} {vs : List (Str × V)} {d : D} {ds : List (Str × D)} : Rep K H v d → RepFs K H vs ds → RepFs K H ((f, v) :: vs) ((f, d) :: ds)
end
theorem Grow.at {H H' : Hp} (e : Grow H H') (b : Addr) (o : HO) (h : H b = some o) (n : isTbl o = false := by rfl) : H' b = some o := e.get b o h n
instance {H H' : Hp} : CoeFun (Grow H H') (fun _ => ∀ b o, H b = some o → (n : isTbl o = false := by rfl) → H' b = some o) := ⟨@Grow.at H H'⟩
theorem Grow.refl (H : Hp) : Grow H H := ⟨fun _ _ h _ => h⟩
theorem Grow.trans {H H1 H2 : Hp} (a : Grow H H1) (b : Grow H1 H2) : Grow H H2 := ⟨fun c o h n => b.get c o (a.get c o h n) n⟩
theorem Grow.seq {K : PySem.W.Frag} {H H' : Hp} {a : Addr} {xs : List V} (e : Grow H H') (h : SqL K H a xs) : SqL K H' a xs := by
  rcases h with (h | ⟨o, h⟩) | h
  · exact .inl (.inl (e _ _ h))
  · exact .inl (.inr ⟨o, e _ _ h⟩)
  · exact .inr h
class TabsC where
  T : List (Addr × Str)
variable [TabsC]
/-- the same, and tables keep what they tell -/
structure Same (H H' : Hp) : Prop where
  ob : Grow H H'
  tb : LamX.Tabs TabsC.T H → LamX.Tabs TabsC.T H'
  ne : ∀ b, H' b = none → H b = none
theorem Same.at {H H' : Hp} (e : Same H H') (b : Addr) (o : HO) (h : H b = some o) (n : isTbl o = false := by rfl) : H' b = some o := e.ob.get b o h n
instance {H H' : Hp} : CoeFun (Same H H') (fun _ => ∀ b o, H b = some o → (n : isTbl o = false := by rfl) → H' b = some o) := ⟨@Same.at _ H H'⟩
instance {H H' : Hp} : Coe (Same H H') (Grow H H') := ⟨Same.ob⟩
theorem Same.refl (H : Hp) : Same H H := ⟨Grow.refl H, fun h => h, fun _ h => h⟩
theorem Same.trans {H H1 H2 : Hp} (a : Same H H1) (b : Same H1 H2) : Same H H2 := ⟨a.ob.trans b.ob, fun h => b.tb (a.tb h), fun c h => a.ne c (b.ne c h)⟩
theorem Same.free {H H' : Hp} (e : Same H H') {l : Addr} (h : H' l = Option.none) : H l = Option.none := e.ne l h
theorem Same.seq {K : PySem.W.Frag} {H H' : Hp} {a : Addr} {xs : List V} (e : Same H H') (h : SqL K H a xs) : SqL K H' a xs := e.ob.seq h
theorem Same.of {H H' : Hp} (e : ∀ b o, H b = some o → H' b = some o) : Same H H' := ⟨⟨fun b o h _ => e b o h⟩, fun h p hp => (h p hp).ext e, fun b h => by
  cases q : H b with
  | none => rfl
  | some o => rw [e b o q] at h; cases h⟩
theorem TabS.put {H : Hp} {a P : Addr} {q : Str} {o o' : HO} (h : H a = some o) (n : isTbl o = false) (m : ∀ c q, o ≠ LamX.CodeO c q) (t : LamX.TabS H P q) : LamX.TabS (upd H a o') P q := by
  obtain ⟨ps, h1, h2, h3⟩ := t
  have nP : P ≠ a := fun z => by
    rw [z, h] at h1
    cases h1
    cases n
  refine ⟨ps, by rw [upd_ne nP]; exact h1, h2, fun pos cv hc => ?_⟩
  obtain ⟨c, e1, e2⟩ := h3 pos cv hc
  refine ⟨c, e1, ?_⟩
  rw [upd_ne fun z => ?_]
  · exact e2
  · rw [z, h] at e2
    exact m _ _ (Option.some.inj e2)
theorem Same.put {H : Hp} {a : Addr} {o o' : HO} {H0 : Hp} (e : Same H0 H) (h0 : H0 a = none) (h : H a = some o) (n : isTbl o = false := by rfl) (m : ∀ c q, o ≠ LamX.CodeO c q := by intro c q z; unfold LamX.CodeO at z; cases z) : Same H0 (upd H a o') :=
  ⟨⟨fun b u q hb => by rw [upd_ne (ne_of_none q h0)]; exact e.ob.get b u q hb⟩, fun t p hp => TabS.put h n m (e.tb t p hp), fun b z => by
    by_cases hb : b = a
    · rw [hb]; exact h0
    · rw [upd_ne hb] at z; exact e.ne b z⟩
theorem sameT {K : PySem.W.Frag} {H H' : Hp} {a : Addr} {xs : List V} (e : Grow H H') (h : SqT K H a xs) : SqT K H' a xs := by
  rcases h with (h | ⟨o, h⟩) | h
  · exact .inl (.inl (e _ _ h))
  · exact .inl (.inr ⟨o, e _ _ h⟩)
  · exact .inr h
section
variable {K : PySem.W.Frag} {H H' : Hp}
theorem rdMono {H H' : Hp} {a : Addr} {u : HO} (e : Grow H H') (h : Rd H a u) (n : isTbl u = false := by rfl) : Rd H' a u := by
  rcases h with h | ⟨o, h⟩
  · exact .inl (e _ _ h n)
  · exact .inr ⟨o, e _ _ h⟩
mutual
theorem Rep.mono (e : Grow H H') : ∀ {v : V} {d : D}, Rep K H v d → Rep K H' v d
  | _, _, .non => .non
  | _, _, .bool b => .bool b
  | _, _, .int i => .int i
  | _, _, .str x => .str x
  | _, _, .list h l r => .list (e _ _ h) l (Reps.mono e r)
  | _, _, .tup h l r => .tup (sameT e h) l (Reps.mono e r)
  | _, _, .dict h l r => .dict (e _ _ h) l (RepKs.mono e r)
  | _, _, .tdict h l k r => .tdict (e _ _ h) l k (Reps.mono e r)
  | _, _, .obj c h r => .obj c (e _ _ h) (RepFs.mono e r)
  | _, _, .dice h => .dice (e _ _ h)
  | _, _, .script h l => .script (e.seq h) l
  | _, _, .opq h => .opq (h.trans e)
  | _, _, .ty n => .ty n
  | _, _, .fn h => .fn h
  | _, _, .exc c h r => .exc c (e _ _ h) (Rep.mono e r)
theorem Reps.mono (e : Grow H H') : ∀ {vs : List V} {ds : List D}, Reps K H vs ds → Reps K H' vs ds
  | _, _, .nil => .nil
  | _, _, .cons h r => .cons (Rep.mono e h) (Reps.mono e r)
theorem RepKs.mono (e : Grow H H') : ∀ {vs : List (Key × V)} {ds : List (Key × D)}, RepKs K H vs ds → RepKs K H' vs ds
  | _, _, .nil => .nil
  | _, _, .cons h r => .cons (Rep.mono e h) (RepKs.mono e r)
theorem RepFs.mono (e : Grow H H') : ∀ {vs : List (Str × V)} {ds : List (Str × D)}, RepFs K H vs ds → RepFs K H' vs ds
  | _, _, .nil => .nil
  | _, _, .cons h r => .cons (Rep.mono e h) (RepFs.mono e r)
end
theorem Reps.length : ∀ {vs : List V} {ds : List D}, Reps K H vs ds → vs.length = ds.length
  | _, _, .nil => rfl
  | _, _, .cons _ r => by rw [List.length_cons, List.length_cons, Reps.length r]
theorem RepKs.length : ∀ {vs : List (Key × V)} {ds : List (Key × D)}, RepKs K H vs ds → vs.length = ds.length
  | _, _, .nil => rfl
  | _, _, .cons _ r => by rw [List.length_cons, List.length_cons, RepKs.length r]
theorem Reps.get : ∀ {vs : List V} {ds : List D} {i : Nat} {v : V}, Reps K H vs ds → vs[i]? = some v → ∃ d, ds[i]? = some d ∧ Rep K H v d
  | _, _, _, _, .nil, e => by simp at e
  | _, _, 0, _, .cons r _, e => by simp at e; subst e; exact ⟨_, rfl, r⟩
  | _, _, i + 1, x, .cons _ t, e => by
    obtain ⟨d, h1, h2⟩ := Reps.get (i := i) (v := x) t (by simpa using e)
    exact ⟨d, by simpa using h1, h2⟩
theorem Reps.get' {vs : List V} {ds : List D} {i : Nat} {d : D} (r : Reps K H vs ds) (e : ds[i]? = some d) : ∃ v, vs[i]? = some v ∧ Rep K H v d := by
  have hi : i < vs.length := by
    rw [r.length]
    exact (List.getElem?_eq_some_iff.mp e).1
  have ev : vs[i]? = some vs[i] := List.getElem?_eq_getElem hi
  obtain ⟨d', h1, h2⟩ := r.get ev
  rw [e] at h1
  cases h1
  exact ⟨_, ev, h2⟩
theorem Reps.append : ∀ {vs ws : List V} {ds es : List D}, Reps K H vs ds → Reps K H ws es → Reps K H (vs ++ ws) (ds ++ es)
  | _, _, _, _, .nil, s => s
  | _, _, _, _, .cons r t, s => .cons r (Reps.append t s)
theorem Reps.take : ∀ {vs : List V} {ds : List D} (n : Nat), Reps K H vs ds → Reps K H (vs.take n) (ds.take n)
  | _, _, 0, _ => .nil
  | _, _, _ + 1, .nil => .nil
  | _, _, n + 1, .cons r t => .cons r (Reps.take n t)
theorem Reps.drop : ∀ {vs : List V} {ds : List D} (n : Nat), Reps K H vs ds → Reps K H (vs.drop n) (ds.drop n)
  | _, _, 0, r => r
  | _, _, _ + 1, .nil => .nil
  | _, _, n + 1, .cons _ t => Reps.drop n t
theorem Reps.reverse {vs : List V} {ds : List D} (r : Reps K H vs ds) : Reps K H vs.reverse ds.reverse := by
  have go : ∀ {vs : List V} {ds : List D}, Reps K H vs ds → Reps K H vs.reverse ds.reverse := by
    intro vs
    induction vs with
    | nil => intro ds r; cases r; exact .nil
    | cons v vs ih =>
      intro ds r
      cases r with
      | cons r t =>
        rw [List.reverse_cons, List.reverse_cons]
        exact (ih t).append (.cons r .nil)
  exact go r
theorem Reps.ints : ∀ (ns : List Int), Reps K H (ns.map V.int) (ns.map D.int)
  | [] => .nil
  | n :: ns => .cons (.int n) (Reps.ints ns)
theorem Reps.of_ints : ∀ {vs : List V} {ns : List Int}, Reps K H vs (ns.map D.int) → vs = ns.map V.int
  | _, [], r => by cases r; rfl
  | _, n :: ns, r => by
    cases r with
    | cons h t =>
      cases h
      rw [Reps.of_ints t]
      rfl
theorem Reps.of_bools : ∀ {vs : List V} {ns : List Bool}, Reps K H vs (ns.map D.bool) → vs = ns.map V.bl
  | _, [], r => by cases r; rfl
  | _, n :: ns, r => by
    cases r with
    | cons h t =>
      cases h
      rw [Reps.of_bools t]
      rfl
end
/-! ### heaps without some cells -/
def sub (H : Hp) (ls : List Addr) : Hp := fun a => if a ∈ ls then none else H a
section
variable {H H' : Hp} {ls ls' : List Addr} {a : Addr} {o : HO}
theorem sub_in (h : a ∈ ls) : sub H ls a = none := if_pos h
theorem sub_out (h : a ∉ ls) : sub H ls a = H a := if_neg h
theorem sub_le : Grow (sub H ls) H := ⟨fun b o h _ => by
  by_cases hb : b ∈ ls
  · rw [sub_in hb] at h; cases h
  · rw [sub_out hb] at h; exact h⟩
theorem sub_same (e : Grow H H') : Grow (sub H ls) (sub H' ls) := ⟨fun b o h hn => by
  by_cases hb : b ∈ ls
  · rw [sub_in hb] at h; cases h
  · rw [sub_out hb] at h ⊢; exact e.get b o h hn⟩
theorem sub_less (e : ∀ a, a ∈ ls' → a ∈ ls) : Grow (sub H ls) (sub H ls') := ⟨fun b o h _ => by
  by_cases hb : b ∈ ls
  · rw [sub_in hb] at h; cases h
  · rw [sub_out hb] at h
    rw [sub_out fun z => hb (e b z)]
    exact h⟩
theorem sub_upd (h : a ∈ ls) : sub (upd H a o) ls = sub H ls := by
  funext b
  unfold sub
  by_cases hb : b ∈ ls
  · rw [if_pos hb, if_pos hb]
  · rw [if_neg hb, if_neg hb, upd_ne fun z => hb (by rw [z]; exact h)]
theorem same_upd (h : H a = none) : Same H (upd H a o) := Same.of fun b u e => by
  rw [upd_ne (ne_of_none e h)]
  exact e
/-- a new cell set aside -/
theorem sub_fresh (h : H a = none) (e : Same H H') : Grow (sub H ls) (sub H' (a :: ls)) := ⟨fun b o hb hn => by
  have h1 : b ∉ ls := fun z => by rw [sub_in z] at hb; cases hb
  rw [sub_out h1] at hb
  rw [sub_out fun z => (List.mem_cons.mp z).elim (ne_of_none hb h) h1]
  exact e.ob.get b o hb hn⟩
end
/-- a dict with tuples as keys -/
def RepTs (K : PySem.W.Frag) (H : Hp) (kvs : List (List Key × V)) (ds : List (List Key × D)) : Prop := kvs.map (·.1) = ds.map (·.1) ∧ Reps K H (kvs.map (·.2)) (ds.map (·.2))
theorem RepTs.mono {K : PySem.W.Frag} {H H' : Hp} {kvs : List (List Key × V)} {ds : List (List Key × D)} (r : RepTs K H kvs ds) (e : Grow H H') : RepTs K H' kvs ds := ⟨r.1, Reps.mono e r.2⟩
/-! ### what a value is in a frame that owns cells -/
inductive RV (K : PySem.W.Frag) (fo ls : List Addr) (H : Hp) : Bool → V → D → Prop
  | cl {b : Bool} {v : V} {d : D} : Rep K (sub H ls) v d → RV K fo ls H b v d
  | ml {a : Addr} {xs : List V} {ds : List D} : a ∉ fo → H a = some (.lst xs) → xs.length ≤ sizeLine → Reps K (sub H ls) xs ds → RV K fo ls H true (.ref a) (.list ds)
  | md {a : Addr} {kvs : List (Key × V)} {ds : List (Key × D)} : a ∉ fo → H a = some (.dK kvs) → kvs.length ≤ sizeLine → RepKs K (sub H ls) kvs ds → RV K fo ls H true (.ref a) (.dict ds)
  | mt {a : Addr} {kvs : List (List Key × V)} {ds : List (List Key × D)} : a ∉ fo → H a = some (.dT kvs) → kvs.length ≤ sizeLine → RepTs K (sub H ls) kvs ds → RV K fo ls H true (.ref a) (.tdict ds)
  | mo {a C dx : Addr} {n : Str} {fs : List (Str × V)} {ds : List (Str × D)} : a ∉ fo → PySem.W.nsIn K mainGlobals n = some (some (.ref C)) → H a = some (.ins C dx fs) → RepFs K (sub H ls) fs ds → RV K fo ls H true (.ref a) (.obj n ds)
/-- a new container of one's own at p -/
inductive FV (K : PySem.W.Frag) (ls : List Addr) (H : Hp) (p : Addr) : D → Prop
  | l {xs : List V} {ds : List D} : H p = some (.lst xs) → xs.length ≤ sizeLine → Reps K (sub H ls) xs ds → FV K ls H p (.list ds)
  | d {kvs : List (Key × V)} {ds : List (Key × D)} : H p = some (.dK kvs) → kvs.length ≤ sizeLine → RepKs K (sub H ls) kvs ds → FV K ls H p (.dict ds)
  | t {kvs : List (List Key × V)} {ds : List (List Key × D)} : H p = some (.dT kvs) → kvs.length ≤ sizeLine → RepTs K (sub H ls) kvs ds → FV K ls H p (.tdict ds)
  | o {C dx : Addr} {n : Str} {fs : List (Str × V)} {ds : List (Str × D)} : PySem.W.nsIn K mainGlobals n = some (some (.ref C)) → H p = some (.ins C dx fs) → RepFs K (sub H ls) fs ds → FV K ls H p (.obj n ds)
section
variable {K : PySem.W.Frag} {fo ls : List Addr} {H H' : Hp} {b : Bool} {v : V} {d : D}
theorem RV.clean (r : RV K fo ls H false v d) : Rep K (sub H ls) v d := by
  cases r with
  | cl r => exact r
theorem RV.up (r : RV K fo ls H b v d) : RV K fo ls H true v d := by
  cases r with
  | cl r => exact .cl r
  | ml n a b c => exact .ml n a b c
  | md n a b c => exact .md n a b c
  | mt n a b c => exact .mt n a b c
  | mo n a b c => exact .mo n a b c
/-- a dict of our own that may still be written -/
def isDic : D → Bool
  | .dict _ => true
  | .tdict _ => true
  | _ => false
theorem RV.rep (r : RV K fo ls H b v d) (h : isDic d = false) : Rep K H v d := by
  cases r with
  | cl r => exact r.mono sub_le
  | ml n a b c => exact .list a b (c.mono sub_le)
  | md n a b c => cases h
  | mt n a b c => cases h
  | mo n a b c => exact .obj a b (c.mono sub_le)
theorem RV.mono (e : Grow H H') (r : RV K fo ls H b v d) : RV K fo ls H' b v d := by
  cases r with
  | cl r => exact .cl (r.mono (sub_same e))
  | ml n a b c => exact .ml n (e _ _ a) b (c.mono (sub_same e))
  | md n a b c => exact .md n (e _ _ a) b (c.mono (sub_same e))
  | mt n a b c => exact .mt n (e _ _ a) b (c.mono (sub_same e))
  | mo n a b c => exact .mo n a (e _ _ b) (c.mono (sub_same e))
theorem RV.list {ds : List D} (r : RV K fo ls H b v (.list ds)) : ∃ a xs, v = .ref a ∧ H a = some (.lst xs) ∧ xs.length ≤ sizeLine ∧ Reps K (sub H ls) xs ds := by
  cases r with
  | cl r =>
    cases r with
    | list h l r => exact ⟨_, _, rfl, sub_le _ _ h, l, r⟩
  | ml n h l r => exact ⟨_, _, rfl, h, l, r⟩
theorem RV.tup {ds : List D} (r : RV K fo ls H b v (.tup ds)) : ∃ a xs, v = .ref a ∧ SqT K H a xs ∧ xs.length ≤ sizeLine ∧ Reps K (sub H ls) xs ds := by
  cases r with
  | cl r =>
    cases r with
    | tup h l r => exact ⟨_, _, rfl, sameT sub_le h, l, r⟩
theorem RV.tdict {ds : List (List Key × D)} (r : RV K fo ls H b v (.tdict ds)) : ∃ a xs, v = .ref a ∧ Rd H a (.dT xs) ∧ xs.length ≤ sizeLine ∧ RepTs K (sub H ls) xs ds := by
  cases r with
  | cl r =>
    cases r with
    | tdict h l k r => exact ⟨_, _, rfl, .inr ⟨_, sub_le _ _ h⟩, l, k, r⟩
  | mt n h l r => exact ⟨_, _, rfl, .inl h, l, r⟩
theorem RV.dict {ds : List (Key × D)} (r : RV K fo ls H b v (.dict ds)) : ∃ a xs, v = .ref a ∧ Rd H a (.dK xs) ∧ xs.length ≤ sizeLine ∧ RepKs K (sub H ls) xs ds := by
  cases r with
  | cl r =>
    cases r with
    | dict h l r => exact ⟨_, _, rfl, .inr ⟨_, sub_le _ _ h⟩, l, r⟩
  | md n h l r => exact ⟨_, _, rfl, .inl h, l, r⟩
end
/-! ### names as data -/
inductive DV where
  | u | v (d : D) | m (d : D) | s (d : D)
structure Fm where
  ls0 : List Addr
  H0 : Hp
  Hi : Hp
def SlotR (K : PySem.W.Frag) (fo ls own : List Addr) (H : Hp) (s : Option V) : DV → Prop
  | .u => True
  | .v d => ∃ x, s = some x ∧ Rep K (sub H ls) x d
  | .m d => ∃ a, s = some (.ref a) ∧ a ∈ own ∧ RV K fo ls H true (.ref a) d
  | .s d => ∃ a C dx n fs ds, s = some (.ref a) ∧ a ∈ fo ∧ d = .obj n ds ∧ PySem.W.nsIn K mainGlobals n = some (some (.ref C)) ∧ H a = some (.ins C dx fs) ∧ RepFs K (sub H ls) fs ds
structure EnvD (K : PySem.W.Frag) (F : Fm) (own : List Addr) (σ : L2.St) (δ : List DV) (H : Hp) : Prop where
  same : Same F.H0 H
  imm : Grow F.Hi (sub H (F.ls0 ++ own))
  tabs : LamX.Tabs TabsC.T H
  new : ∀ l, l ∈ own → F.H0 l = none
  trk : ∀ l, l ∈ F.ls0 ++ own → ∃ o, H l = some o ∧ Plain o
  sep : ∀ l, l ∈ own → l ∉ F.ls0
  len : σ.length = δ.length
  slot : ∀ (i : Nat) (dv : DV), δ[i]? = some dv → ∃ s, σ[i]? = some s ∧ SlotR K F.ls0 (F.ls0 ++ own) own H s dv
  lent : ∀ (i : Nat) (d : D) (a : Addr), δ[i]? = some (.s d) → σ[i]? = some (some (.ref a)) → F.H0 a = none
  alone : ∀ (i j : Nat) (di dj : D) (a : Addr), δ[i]? = some (.s di) → δ[j]? = some (.s dj) → σ[i]? = some (some (.ref a)) → σ[j]? = some (some (.ref a)) → i = j
  apart : ∀ (i j : Nat) (di dj : D) (a : Addr), δ[i]? = some (.m di) → δ[j]? = some (.m dj) → σ[i]? = some (some (.ref a)) → σ[j]? = some (some (.ref a)) → i = j
theorem SlotR.mono {K : PySem.W.Frag} {fo ls own : List Addr} {H H' : Hp} {s : Option V} {dv : DV} (e : Grow H H') (h : SlotR K fo ls own H s dv) : SlotR K fo ls own H' s dv := by
  cases dv with
  | u => trivial
  | v d => obtain ⟨x, e1, r⟩ := h; exact ⟨x, e1, r.mono (sub_same e)⟩
  | m d => obtain ⟨a, e1, h1, r⟩ := h; exact ⟨a, e1, h1, r.mono e⟩
  | s d => obtain ⟨a, C, dx, n, fs, ds, e1, h1, h2, h3, h4, r⟩ := h; exact ⟨a, C, dx, n, fs, ds, e1, h1, h2, h3, e _ _ h4, r.mono (sub_same e)⟩
section
variable {K : PySem.W.Frag} {F : Fm} {own : List Addr} {σ : L2.St} {δ : List DV} {H H' : Hp}
theorem EnvD.grow (E : EnvD K F own σ δ H) (e : Same H H') : EnvD K F own σ δ H' :=
  ⟨E.same.trans e, E.imm.trans (sub_same e), e.tb E.tabs, E.new, fun l h => by
    obtain ⟨o, q, n⟩ := E.trk l h
    exact ⟨o, e _ _ q n.1, n⟩, E.sep, E.len, fun i dv h => let ⟨s, q, r⟩ := E.slot i dv h; ⟨s, q, r.mono e⟩, E.lent, E.alone, E.apart⟩
end
/-! ### errors as data -/
/-- the exception that lies: its class, its one field -/
def RepEr (K : PySem.W.Frag) (ls : List Addr) (H : Hp) (cls : Value) (dd : Option Addr) (er : Er) : Prop :=
  (∃ C, PySem.W.nsIn K mainGlobals er.cls = some (some (.ref C)) ∧ cls = .ref C) ∧ ∀ f d, er.arg = some (f, d) → ∃ dx v, dd = some dx ∧ sub H ls dx = some (.xd [(f, v)]) ∧ Rep K (sub H ls) v d
theorem RepEr.less {K : PySem.W.Frag} {ls ls' : List Addr} {H : Hp} {cls : Value} {dd : Option Addr} {er : Er} (h : RepEr K ls H cls dd er) (e : ∀ a, a ∈ ls' → a ∈ ls) : RepEr K ls' H cls dd er :=
  ⟨h.1, fun f d q => let ⟨dx, v, a, b, c⟩ := h.2 f d q; ⟨dx, v, a, (sub_less e) _ _ b, c.mono (sub_less e)⟩⟩
abbrev NoE : Er → Prop := fun _ => False
abbrev NoW : WX := fun _ _ _ _ => False
/-- an error that is wished for is taken -/
def Pass (K : PySem.W.Frag) (W : WX) (ls : List Addr) (σ : L2.St) (H : Hp) (EK : Er → Prop) : Prop := ∀ er cls dd H', EK er → Same H H' → RepEr K ls H' cls dd er → W cls dd σ H'
theorem Pass.on {K : PySem.W.Frag} {W : WX} {ls : List Addr} {σ : L2.St} {H H' : Hp} {EK : Er → Prop} (h : Pass K W ls σ H EK) (e : Same H H') : Pass K W ls σ H' EK := fun er cls dd H2 k q r => h er cls dd H2 k (e.trans q) r
/-! ### the judgements -/
/-- an expression as data: from the names, what is wanted of its value, of an error -/
abbrev TM := List DV → (D → Prop) → (Er → Prop) → Prop
abbrev BM := List DV → (Bool → Prop) → (Er → Prop) → Prop
abbrev LM := List DV → (List D → Prop) → (Er → Prop) → Prop
inductive RVs (K : PySem.W.Frag) (fo ls : List Addr) (H : Hp) (b : Bool) : List V → List D → Prop
  | nil : RVs K fo ls H b [] []
  | cons {v : V} {vs : List V} {d : D} {ds : List D} : RV K fo ls H b v d → RVs K fo ls H b vs ds → RVs K fo ls H b (v :: vs) (d :: ds)
theorem RVs.mono {K : PySem.W.Frag} {fo ls : List Addr} {H H' : Hp} {b : Bool} (e : Same H H') : ∀ {vs : List V} {ds : List D}, RVs K fo ls H b vs ds → RVs K fo ls H' b vs ds
  | _, _, .nil => .nil
  | _, _, .cons r t => .cons (r.mono e) (RVs.mono e t)
theorem RVs.clean {K : PySem.W.Frag} {fo ls : List Addr} {H : Hp} : ∀ {vs : List V} {ds : List D}, RVs K fo ls H false vs ds → Reps K (sub H ls) vs ds
  | _, _, .nil => .nil
  | _, _, .cons r t => .cons r.clean (RVs.clean t)
theorem RVs.up {K : PySem.W.Frag} {fo ls : List Addr} {H : Hp} {b : Bool} : ∀ {vs : List V} {ds : List D}, RVs K fo ls H b vs ds → RVs K fo ls H true vs ds
  | _, _, .nil => .nil
  | _, _, .cons r t => .cons r.up (RVs.up t)
theorem RVs.length {K : PySem.W.Frag} {fo ls : List Addr} {H : Hp} {b : Bool} : ∀ {vs : List V} {ds : List D}, RVs K fo ls H b vs ds → vs.length = ds.length
  | _, _, .nil => rfl
  | _, _, .cons _ t => by rw [List.length_cons, List.length_cons, RVs.length t]
structure At (K : PySem.W.Frag) (W : WX) (σ : L2.St) (H : Hp) (F : Fm) (own : List Addr) (δ : List DV) (EK : Er → Prop) : Prop where
  env : EnvD K F own σ δ H
  pass : Pass K W (F.ls0 ++ own) σ H EK
theorem At.on {K : PySem.W.Frag} {W : WX} {σ : L2.St} {H H' : Hp} {F : Fm} {own : List Addr} {δ : List DV} {EK : Er → Prop} (h : At K W σ H F own δ EK) (e : Same H H') : At K W σ H' F own δ EK := ⟨h.env.grow e, h.pass.on e⟩
def tm (K : PySem.W.Frag) (W : WX) (b : Bool) (m : TM) : TE := fun σ H Q => ∃ (F : Fm) (own : List Addr) (δ : List DV) (P : D → Prop) (EK : Er → Prop), At K W σ H F own δ EK ∧ m δ P EK ∧
  ∀ d v H', P d → Same H H' → RV K F.ls0 (F.ls0 ++ own) H' b v d → Q v H'
def DE (X : Cx) (W : WX) (e : Expr) (b : Bool) (m : TM) : Prop := PE X e (tm X.K W b m)
def tb (K : PySem.W.Frag) (W : WX) (m : BM) : TT := fun σ H Q => ∃ (F : Fm) (own : List Addr) (δ : List DV) (P : Bool → Prop) (EK : Er → Prop), At K W σ H F own δ EK ∧ m δ P EK ∧ ∀ c H', P c → Same H H' → Q c H'
def DT (X : Cx) (W : WX) (e : Expr) (m : BM) : Prop := PT X e (tb X.K W m)
def DW (X : Cx) (W : WX) (e : Expr) (m : BM) : Prop := PW X e (tb X.K W m)
def tal (K : PySem.W.Frag) (W : WX) (b : Bool) (m : LM) : TA := fun σ H Q => ∃ (F : Fm) (own : List Addr) (δ : List DV) (P : List D → Prop) (EK : Er → Prop), At K W σ H F own δ EK ∧ m δ P EK ∧
  ∀ ds vs H', P ds → Same H H' → RVs K F.ls0 (F.ls0 ++ own) H' b vs ds → Q vs H'
def DA (X : Cx) (W : WX) (es : List Expr) (b : Bool) (m : LM) : Prop := PA X es (tal X.K W b m)
/-! weakening -/
theorem PE.imp {X : Cx} {e : Expr} {t t' : TE} (h : PE X e t) (k : ∀ σ H Q, t' σ H Q → t σ H Q) : PE X e t' := ⟨fun pins s σ H Q I q => h.run pins s σ H Q I (k _ _ _ q)⟩
theorem PT.imp {X : Cx} {e : Expr} {t t' : TT} (h : PT X e t) (k : ∀ σ H Q, t' σ H Q → t σ H Q) : PT X e t' := ⟨fun pins s σ H Q I q => h.run pins s σ H Q I (k _ _ _ q)⟩
theorem PW.imp {X : Cx} {e : Expr} {t t' : TT} (h : PW X e t) (k : ∀ σ H Q, t' σ H Q → t σ H Q) : PW X e t' := ⟨fun wh pins s σ H Q I q => h.run wh pins s σ H Q I (k _ _ _ q)⟩
theorem PA.imp {X : Cx} {es : List Expr} {t t' : TA} (h : PA X es t) (k : ∀ σ H Q, t' σ H Q → t σ H Q) : PA X es t' := ⟨fun pos pins s σ H Q I q => h.run pos pins s σ H Q I (k _ _ _ q)⟩
theorem PS.imp {X : Cx} {e : Stmt} {t t' : TS} (h : PS X e t) (k : ∀ D σ H, t' D σ H → t D σ H) : PS X e t' := ⟨fun pins s σ H D I q => h.run pins s σ H D I (k _ _ _ q)⟩
theorem PSs.imp {X : Cx} {e : List Stmt} {t t' : TS} (h : PSs X e t) (k : ∀ D σ H, t' D σ H → t D σ H) : PSs X e t' := ⟨fun pins s σ H D I q => h.run pins s σ H D I (k _ _ _ q)⟩
section
variable {X : Cx} {W : WX} {a b c e : Expr} {es : List Expr} {ba bb bc : Bool} {ma mb mc : TM} {pos : Pos}
theorem DE.up (h : DE X W e ba ma) : DE X W e true ma := PE.imp h fun σ H Q ⟨F, own, δ, P, EK, A, m, q⟩ => ⟨F, own, δ, P, EK, A, m, fun d v H' p s r => q d v H' p s r.up⟩
theorem DE.dn (h : DE X W e false ma) : DE X W e ba ma := PE.imp h fun σ H Q ⟨F, own, δ, P, EK, A, m, q⟩ => ⟨F, own, δ, P, EK, A, m, fun d v H' p s r => q d v H' p s (.cl r.clean)⟩
/-! ### names, constants -/
def mC (d : D) : TM := fun _ Q _ => Q d
def mVar (i : Nat) : TM := fun δ Q _ => ∃ d, δ[i]? = some (.v d) ∧ Q d
def mMut (i : Nat) : TM := fun δ Q _ => ∃ d, δ[i]? = some (.m d) ∧ Q d
theorem de_const {v : V} {d : D} (h : PE X e (tC v)) (r : ∀ H, Rep X.K H v d) : DE X W e false (mC d) := PE.imp h fun σ H Q ⟨F, own, δ, P, EK, A, m, q⟩ => q d v H m (Same.refl H) (.cl (r _))
theorem de_int {i : Int} {j : Nat} : DE X W (.Constant (.int i) j pos) false (mC (.int i)) := de_const pe_int fun _ => .int i
theorem de_bool {i : Bool} {j : Nat} : DE X W (.Constant (.bool i) j pos) false (mC (.bool i)) := de_const pe_bl fun _ => .bool i
theorem de_none {j : Nat} : DE X W (.Constant .none j pos) false (mC .none) := de_const pe_non fun _ => .non
theorem de_str {x : Str} {j : Nat} : DE X W (.Constant (.str x) j pos) false (mC (.str x)) := de_const pe_str fun _ => .str x
theorem de_var (i : Nat) {x : Str} (h : PE X (.Name x pos) (tVar i)) : DE X W (.Name x pos) false (mVar i) := PE.imp h fun σ H Q ⟨F, own, δ, P, EK, A, m, q⟩ => by
  obtain ⟨d, e, m⟩ := m
  obtain ⟨s, hs, x, rfl, r⟩ := A.env.slot i _ e
  exact ⟨x, hs, q d x H m (Same.refl H) (.cl r)⟩
theorem de_mut (i : Nat) {x : Str} (h : PE X (.Name x pos) (tVar i)) : DE X W (.Name x pos) true (mMut i) := PE.imp h fun σ H Q ⟨F, own, δ, P, EK, A, m, q⟩ => by
  obtain ⟨d, e, m⟩ := m
  obtain ⟨s, hs, x, rfl, _, r⟩ := A.env.slot i _ e
  exact ⟨_, hs, q d _ H m (Same.refl H) r⟩
/-! ### operators -/
def mBin (f : D → D → (D → Prop) → Prop) (ma mb : TM) : TM := fun δ Q E => ma δ (fun x => mb δ (fun y => f x y Q) E) E
def LinkOp (K : PySem.W.Frag) (r : R2) (f : D → D → (D → Prop) → Prop) : Prop := ∀ (fo ls : List Addr) (H : Hp) (x y : V) (dx dy : D) (P : D → Prop) (Q : VK), (∀ l, l ∈ ls → ∃ o, H l = some o ∧ Plain o) → RV K fo ls H true x dx → RV K fo ls H true y dy → f dx dy P →
  (∀ d v H', P d → Same H H' → Rep K (sub H' ls) v d → Q v H') → r x y H Q
theorem link_two {r : R2} {f : D → D → (D → Prop) → Prop} (lk : LinkOp X.K r f) {σ : L2.St} {H : Hp} {Q : VK} (h : tm X.K W false (mBin f ma mb) σ H Q) : tOp r (tm X.K W ba ma) (tm X.K W bb mb) σ H Q := by
  obtain ⟨F, own, δ, P, EK, A, m, q⟩ := h
  refine ⟨F, own, δ, _, EK, A, m, fun dx x H1 m1 s1 r1 => ?_⟩
  refine ⟨F, own, δ, _, EK, A.on s1, m1, fun dy y H2 m2 s2 r2 => ?_⟩
  exact lk _ _ H2 x y dx dy P Q (A.env.grow (s1.trans s2)).trk (r1.up.mono s2) r2.up m2 fun d v H' p s3 r3 => q d v H' p ((s1.trans s2).trans s3) (.cl r3)
theorem de_op {op : Operator} {r : R2} {f : D → D → (D → Prop) → Prop} (ho : OpR X (binaryOp op) r) (lk : LinkOp X.K r f) (ha : DE X W a ba ma) (hb : DE X W b bb mb) : DE X W (.BinOp a op b pos) false (mBin f ma mb) :=
  PE.imp (pe_op ho ha hb) fun _ _ _ h => link_two lk h
/-- comparisons: the answer is a bool, the heap as it was -/
def mCmp (f : D → D → (Bool → Prop) → Prop) (ma mb : TM) : TM := fun δ Q E => ma δ (fun x => mb δ (fun y => f x y fun c => Q (.bool c)) E) E
def mCmpT (f : D → D → (Bool → Prop) → Prop) (ma mb : TM) : BM := fun δ Q E => ma δ (fun x => mb δ (fun y => f x y Q) E) E
def LinkCmp (K : PySem.W.Frag) (r : R2) (f : D → D → (Bool → Prop) → Prop) : Prop := ∀ (fo ls : List Addr) (H : Hp) (x y : V) (dx dy : D) (P : Bool → Prop) (Q : VK), RV K fo ls H true x dx → RV K fo ls H true y dy → f dx dy P → (∀ c, P c → Q (.bl c) H) → r x y H Q
theorem LinkCmp.op {K : PySem.W.Frag} {r : R2} {f : D → D → (Bool → Prop) → Prop} (lk : LinkCmp K r f) : LinkOp K r fun x y Q => f x y fun c => Q (.bool c) := fun fo ls H x y dx dy P Q _ r1 r2 h q =>
  lk fo ls H x y dx dy _ Q r1 r2 h fun c p => q _ _ H p (Same.refl H) (.bool c)
theorem de_cmp {op : CmpOp} {r : R2} {f : D → D → (Bool → Prop) → Prop} (ho : OpR X (compareOp op) r) (lk : LinkCmp X.K r f) (hm : behindInMarks op b = false) (ha : DE X W a ba ma) (hb : DE X W b bb mb) : DE X W (.Compare a [op] [b] pos) false (mCmp f ma mb) :=
  PE.imp (pe_cmpR ho ha hb hm) fun _ _ _ h => link_two lk.op h
theorem dt_cmp {op : CmpOp} {r : R2} {f : D → D → (Bool → Prop) → Prop} (ho : OpR X (compareOp op) r) (lk : LinkCmp X.K r f) (hm : behindInMarks op b = false) (ha : DE X W a ba ma) (hb : DE X W b bb mb) : DT X W (.Compare a [op] [b] pos) (mCmpT f ma mb) :=
  PT.imp (pt_cmpR ho ha hb hm) fun σ H Q ⟨F, own, δ, P, EK, A, m, q⟩ => by
    refine ⟨F, own, δ, _, EK, A, m, fun dx x H1 m1 s1 r1 => ?_⟩
    refine ⟨F, own, δ, _, EK, A.on s1, m1, fun dy y H2 m2 s2 r2 => ?_⟩
    exact lk _ _ H2 x y dx dy P _ (r1.up.mono s2) r2.up m2 fun c p => ⟨c, rfl, q c H2 p (s1.trans s2)⟩
def mChain (f g : D → D → (Bool → Prop) → Prop) (ma mb mc : TM) : TM := fun δ Q E => ma δ (fun x => mb δ (fun y => f x y fun c => if c = true then mc δ (fun z => g y z fun c' => Q (.bool c')) E else Q (.bool false)) E) E
def mChainT (f g : D → D → (Bool → Prop) → Prop) (ma mb mc : TM) : BM := fun δ Q E => ma δ (fun x => mb δ (fun y => f x y fun c => if c = true then mc δ (fun z => g y z Q) E else Q false) E) E
theorem de_chain {op op' : CmpOp} {r r' : R2} {f g : D → D → (Bool → Prop) → Prop} (ho : OpR X (compareOp op) r) (lk : LinkCmp X.K r f) (ho' : OpR X (compareOp op') r') (lk' : LinkCmp X.K r' g) (ha : DE X W a ba ma) (hb : DE X W b bb mb) (hc : DE X W c bc mc) (hm : lastMarks [op, op'] [b, c] = false := by with_unfolding_all rfl) :
    DE X W (.Compare a [op, op'] [b, c] pos) false (mChain f g ma mb mc) :=
  PE.imp (pe_chain ho ho' ha hb hc hm) fun σ H Q ⟨F, own, δ, P, EK, A, m, q⟩ => by
    refine ⟨F, own, δ, _, EK, A, m, fun dx x H1 m1 s1 r1 => ?_⟩
    refine ⟨F, own, δ, _, EK, A.on s1, m1, fun dy y H2 m2 s2 r2 => ?_⟩
    refine lk _ _ H2 x y dx dy _ _ (r1.up.mono s2) r2.up m2 fun k p => ⟨k, rfl, ?_⟩
    cases k with
    | false => exact iteF (q _ _ H2 (by simpa using p) (s1.trans s2) (.cl (.bool false)))
    | true =>
      refine iteT ⟨F, own, δ, _, EK, A.on (s1.trans s2), (by simpa using p), fun dz z H3 m3 s3 r3 => ?_⟩
      exact lk' _ _ H3 y z dy dz _ _ (r2.up.mono s3) r3.up m3 fun k' p' => q _ _ H3 p' ((s1.trans s2).trans s3) (.cl (.bool k'))
end
end DL
set_option Elab.async false
set_option linter.all false
set_option maxRecDepth 100000
set_option maxHeartbeats 4000000
/-! DL2: and, or, not; argument lists, displays; places, slices; built-ins. -/
namespace DL
open PySem PySem.Spec PyProof.Rows L2
variable [TabsC]
section
variable {X : Cx} {W : WX} {a b c e : Expr} {es rest : List Expr} {ba bb bc : Bool} {ma mb mc : TM} {na nb : BM} {la : LM} {pos : Pos}
/-! ### tests -/
/-- a value that is a bool, as a test -/
def mTest (ma : TM) : BM := fun δ Q E => ma δ (fun d => ∃ c, d = .bool c ∧ Q c) E
def mVal (na : BM) : TM := fun δ Q E => na δ (fun c => Q (.bool c)) E
theorem RV.isBool {K : PySem.W.Frag} {fo ls : List Addr} {H : Hp} {b : Bool} {v : V} {c : Bool} (r : RV K fo ls H b v (.bool c)) : v = .bl c := by
  cases r with
  | cl r => cases r; rfl
theorem dt_val (ha : DE X W a ba ma) (he : ∀ whole, isTrue a X.env whole = (do let v ← whole; standAt a.pos; holding [v] (truthy v)) := by intro _; rfl) : DT X W a (mTest ma) :=
  PT.imp (pt_val ha he) fun σ H Q ⟨F, own, δ, P, EK, A, m, q⟩ => ⟨F, own, δ, _, EK, A, m, fun d v H' ⟨c, ed, p⟩ s r => by
    subst ed
    exact ⟨c, r.isBool, q c H' p s⟩⟩
def mNotT (na : BM) : BM := fun δ Q E => na δ (fun c => Q (!c)) E
def mAndT (na nb : BM) : BM := fun δ Q E => na δ (fun c => if c = true then nb δ Q E else Q false) E
def mOrT (na nb : BM) : BM := fun δ Q E => na δ (fun c => if c = true then Q true else nb δ Q E) E
theorem dt_not (ha : DT X W a na) : DT X W (.UnaryOp .Not a pos) (mNotT na) :=
  PT.imp (pt_not ha) fun σ H Q ⟨F, own, δ, P, EK, A, m, q⟩ => ⟨F, own, δ, _, EK, A, m, fun c H' p s => q _ H' p s⟩
theorem dw_and1 (ha : DT X W a na) : DW X W (.BoolOp .And [a] pos) na := pw_and1 ha
theorem dw_or1 (ha : DT X W a na) : DW X W (.BoolOp .Or [a] pos) na := pw_or1 ha
theorem dw_and (ha : DT X W a na) (hb : DW X W (.BoolOp .And (b :: rest) pos) nb) : DW X W (.BoolOp .And (a :: b :: rest) pos) (mAndT na nb) :=
  PW.imp (pw_and ha hb) fun σ H Q ⟨F, own, δ, P, EK, A, m, q⟩ => ⟨F, own, δ, _, EK, A, m, fun c H' p s => by
    cases c with
    | true => exact iteT ⟨F, own, δ, _, EK, A.on s, (by simpa using p), fun c H2 p2 s2 => q c H2 p2 (s.trans s2)⟩
    | false => exact iteF (q _ H' (by simpa using p) s)⟩
theorem dw_or (ha : DT X W a na) (hb : DW X W (.BoolOp .Or (b :: rest) pos) nb) : DW X W (.BoolOp .Or (a :: b :: rest) pos) (mOrT na nb) :=
  PW.imp (pw_or ha hb) fun σ H Q ⟨F, own, δ, P, EK, A, m, q⟩ => ⟨F, own, δ, _, EK, A, m, fun c H' p s => by
    cases c with
    | true => exact iteT (q _ H' (by simpa using p) s)
    | false => exact iteF ⟨F, own, δ, _, EK, A.on s, (by simpa using p), fun c H2 p2 s2 => q c H2 p2 (s.trans s2)⟩⟩
theorem dt_w (h : DW X W a na) : DT X W a na := PW.pt h
/-- .. as values -/
theorem de_not (ha : DE X W a ba ma) : DE X W (.UnaryOp .Not a pos) false (mVal (mNotT (mTest ma))) :=
  PE.imp (pe_not ha) fun σ H Q ⟨F, own, δ, P, EK, A, m, q⟩ => ⟨F, own, δ, _, EK, A, m, fun d v H' ⟨c, ed, p⟩ s r => by
    subst ed
    exact ⟨c, r.isBool, q _ _ H' p s (.cl (.bool _))⟩⟩
theorem de_one {op : BoolOp} (ha : DE X W a ba ma) : DE X W (.BoolOp op [a] pos) ba ma := pe_one ha
def mAnd (ma mb : TM) : TM := fun δ Q E => ma δ (fun d => ∃ c, d = .bool c ∧ if c = true then mb δ Q E else Q (.bool false)) E
def mOr (ma mb : TM) : TM := fun δ Q E => ma δ (fun d => ∃ c, d = .bool c ∧ if c = true then Q (.bool true) else mb δ Q E) E
theorem de_and (ha : DE X W a ba ma) (hb : DE X W (.BoolOp .And (b :: rest) pos) bb mb) : DE X W (.BoolOp .And (a :: b :: rest) pos) bb (mAnd ma mb) :=
  PE.imp (pe_and ha hb) fun σ H Q ⟨F, own, δ, P, EK, A, m, q⟩ => ⟨F, own, δ, _, EK, A, m, fun d v H' ⟨c, ed, p⟩ s r => by
    subst ed
    refine ⟨c, r.isBool, ?_⟩
    cases c with
    | true => exact iteT ⟨F, own, δ, _, EK, A.on s, (by simpa using p), fun d v H2 p2 s2 r2 => q d v H2 p2 (s.trans s2) r2⟩
    | false => exact iteF (q _ _ H' (by simpa using p) s (.cl (.bool _)))⟩
def mIf (na : BM) (ma mb : TM) : TM := fun δ Q E => na δ (fun c => if c = true then ma δ Q E else mb δ Q E) E
theorem de_if (hc : DT X W c na) (ha : DE X W a ba ma) (hb : DE X W b ba mb) : DE X W (.IfExp c a b pos) ba (mIf na ma mb) :=
  PE.imp (pe_ifExp hc ha hb) fun σ H Q ⟨F, own, δ, P, EK, A, m, q⟩ => ⟨F, own, δ, _, EK, A, m, fun c H' p s => by
    cases c with
    | true => exact iteT ⟨F, own, δ, _, EK, A.on s, (by simpa using p), fun d v H2 p2 s2 r2 => q d v H2 p2 (s.trans s2) r2⟩
    | false => exact iteF ⟨F, own, δ, _, EK, A.on s, (by simpa using p), fun d v H2 p2 s2 r2 => q d v H2 p2 (s.trans s2) r2⟩⟩
def isNoneD : D → Bool | .none => true | _ => false
theorem RV.isNone {K : PySem.W.Frag} {fo ls : List Addr} {H : Hp} {b : Bool} {v : V} {d : D} (r : RV K fo ls H b v d) : decide (v = .non) = isNoneD d := by
  cases r with
  | cl r => cases r <;> rfl
  | ml _ _ _ _ => rfl
  | md _ _ _ _ => rfl
  | mt _ _ _ _ => rfl
  | mo _ _ _ _ => rfl
def fIs (x y : D) (Q : Bool → Prop) : Prop := y = .none ∧ Q (isNoneD x)
def fIsNot (x y : D) (Q : Bool → Prop) : Prop := y = .none ∧ Q (!isNoneD x)
theorem RV.non {K : PySem.W.Frag} {fo ls : List Addr} {H : Hp} {b : Bool} {v : V} (r : RV K fo ls H b v .none) : v = .non := by
  cases r with
  | cl r => cases r; rfl
theorem RV.isInt {K : PySem.W.Frag} {fo ls : List Addr} {H : Hp} {b : Bool} {v : V} {i : Int} (r : RV K fo ls H b v (.int i)) : v = .int i := by
  cases r with
  | cl r => cases r; rfl
theorem RV.isStr {K : PySem.W.Frag} {fo ls : List Addr} {H : Hp} {b : Bool} {v : V} {i : Str} (r : RV K fo ls H b v (.str i)) : v = .str i := by
  cases r with
  | cl r => cases r; rfl
/-! ### argument lists -/
def mNil : LM := fun _ Q _ => Q []
def mCons (ma : TM) (la : LM) : LM := fun δ Q E => ma δ (fun d => la δ (fun ds => Q (d :: ds)) E) E
theorem da_nil : DA X W [] ba mNil := PA.imp pa_nil fun σ H Q ⟨F, own, δ, P, EK, A, m, q⟩ => q [] [] H m (Same.refl H) .nil
theorem da_cons (ha : DE X W e ba ma) (hr : DA X W es ba la) (hs : starEach (e :: es) X.env = (false, eval e X.env) :: starEach es X.env := by rfl) : DA X W (e :: es) ba (mCons ma la) :=
  PA.imp (pa_cons ha hr hs) fun σ H Q ⟨F, own, δ, P, EK, A, m, q⟩ => ⟨F, own, δ, _, EK, A, m, fun d v H1 m1 s1 r1 =>
    ⟨F, own, δ, _, EK, A.on s1, m1, fun ds vs H2 m2 s2 r2 => q _ _ H2 m2 (s1.trans s2) (.cons (r1.mono s2) r2)⟩⟩
/-! ### displays -/
def mTup (la : LM) : TM := fun δ Q E => la δ (fun ds => ds.length ≤ sizeLine ∧ Q (.tup ds)) E
def mLst (la : LM) : TM := fun δ Q E => la δ (fun ds => ds.length ≤ sizeLine ∧ Q (.list ds)) E
theorem de_tup {x1 : Nat} (h : DA X W es false la) : DE X W (.Tuple es x1 pos) false (mTup la) :=
  PE.imp (pe_tup h) fun σ H Q ⟨F, own, δ, P, EK, A, m, q⟩ => ⟨F, own, δ, _, EK, A, m, fun ds vs H1 m1 s1 r1 => by
    obtain ⟨hl, m1⟩ := m1
    have hz : vs.length ≤ sizeLine := by rw [r1.length]; exact hl
    refine ⟨hz, fun p hp => ?_⟩
    have hn : p ∉ F.ls0 ++ own := fun z => by
      obtain ⟨o, e, nn⟩ := (A.env.grow s1).trk p z
      rw [hp] at e; cases e
    refine q _ _ _ m1 (s1.trans (same_upd hp)) (.cl (.tup (.of ?_) hz (r1.clean.mono (sub_same (same_upd hp).ob))))
    rw [sub_out hn]
    exact upd_same⟩
/-- a new container of our own: it was not there, its items do not hang on it -/
def tf (K : PySem.W.Frag) (W : WX) (m : TM) : TE := fun σ H Q => ∃ (F : Fm) (own : List Addr) (δ : List DV) (P : D → Prop) (EK : Er → Prop), At K W σ H F own δ EK ∧ m δ P EK ∧
  ∀ d p H', P d → H p = none → Same H H' → FV K (p :: (F.ls0 ++ own)) H' p d → Q (.ref p) H'
def DF (X : Cx) (W : WX) (e : Expr) (m : TM) : Prop := PE X e (tf X.K W m)
theorem new_out {K : PySem.W.Frag} {W : WX} {σ : L2.St} {H : Hp} {F : Fm} {own : List Addr} {δ : List DV} {EK : Er → Prop} {p : Addr} (A : At K W σ H F own δ EK) (hp : H p = none) : p ∉ F.ls0 ++ own := fun z => by
  obtain ⟨o, e, nn⟩ := A.env.trk p z
  rw [hp] at e; cases e
theorem FV.clean {K : PySem.W.Frag} {ls : List Addr} {H : Hp} {p : Addr} {d : D} (hp : p ∉ ls) (hd : isDic d = false) (r : FV K (p :: ls) H p d) : Rep K (sub H ls) (.ref p) d := by
  have le : Grow (sub H (p :: ls)) (sub H ls) := sub_less fun a h => List.mem_cons_of_mem _ h
  cases r with
  | l h l r => exact .list (by rw [sub_out hp]; exact h) l (r.mono le)
  | d h l r => cases hd
  | t h l r => cases hd
  | o c h r => exact .obj c (by rw [sub_out hp]; exact h) (r.mono le)
/-- a cell's tracking told anew -/
theorem Inv.retrack {pins : List (Addr × Obj)} {σ : L2.St} {H : Hp} {s : Shared} {p : Addr} {o : HO} (I : Inv X pins σ H s) (mu : Mut (H p)) (new : ObjOk X.prog X.w (upd H p o) s.heap p o) : Inv X pins σ (upd H p o) s := by
  have there : ∃ u, s.heap.get? p = some u := by
    cases e : H p with
    | none => rw [e] at mu; exact mu.elim
    | some u => exact objOk_get (I.hok p u e)
  exact I.write (h' := s.heap) (t' := s.toks) mu (.inl rfl) (fun _ _ _ h => h) there new
/-- a dict is locked for good -/
theorem Inv.locked {pins : List (Addr × Obj)} {σ : L2.St} {H : Hp} {s : Shared} {p : Addr} {kvs : List (Key × V)} (I : Inv X pins σ H s) (h : H p = some (.dK kvs)) : ∃ od, Inv X pins σ (upd H p (.frz od (.dK kvs))) s := by
  have x : ObjOk X.prog X.w H s.heap p (.dK kvs) := I.hok p _ h
  obtain ⟨od, ho⟩ := objOk_get x
  exact ⟨od, Inv.retrack I (by rw [h]; trivial) ⟨ho, x⟩⟩
theorem Inv.lockedT {pins : List (Addr × Obj)} {σ : L2.St} {H : Hp} {s : Shared} {p : Addr} {kvs : List (List Key × V)} (I : Inv X pins σ H s) (h : H p = some (.dT kvs)) : ∃ od, Inv X pins σ (upd H p (.frz od (.dT kvs))) s := I.lock h trivial
theorem pe_lockd {t : TE} (h : PE X e t) : PE X e (fun σ H Q => t σ H fun v H1 => Q v H1 ∨ (∃ a kvs, v = .ref a ∧ H1 a = some (.dK kvs) ∧ ∀ od, Q v (upd H1 a (.frz od (.dK kvs)))) ∨ ∃ a kvs, v = .ref a ∧ H1 a = some (.dT kvs) ∧ ∀ od, Q v (upd H1 a (.frz od (.dT kvs)))) := by
  refine ⟨fun pins s σ H Q I q => ?_⟩
  refine thn (h.run pins s σ H _ I q) fun u s1 ⟨v, H1, I1, rv, z⟩ => ?_
  rcases z with z | ⟨a, kvs, ev, ha, z⟩ | ⟨a, kvs, ev, ha, z⟩
  · exact ⟨v, H1, I1, rv, z⟩
  · obtain ⟨od, I2⟩ := Inv.locked I1 ha
    exact ⟨v, _, I2, rv, z od⟩
  · obtain ⟨od, I2⟩ := Inv.lockedT I1 ha
    exact ⟨v, _, I2, rv, z od⟩
theorem same_upd2 {H H' : Hp} {p : Addr} {o : HO} (h : H p = none) (s : Same H H') (hp : ∃ u, H' p = some u ∧ isTbl u = false ∧ ∀ c q, u ≠ LamX.CodeO c q) : Same H (upd H' p o) := by
  obtain ⟨u, e, n, m⟩ := hp
  exact Same.put s h e n m
theorem not_code {o : HO} (h : match o with | .ext _ => False | _ => True) : ∀ c q, o ≠ LamX.CodeO c q := fun c q z => by rw [z] at h; exact h
theorem DF.de (h : DF X W e ma) : DE X W e ba ma := DE.dn (PE.imp (pe_lockd h) fun σ H Q ⟨F, own, δ, P, EK, A, m, q⟩ => ⟨F, own, δ, P, EK, A, m, fun d p H' pd hp s r => by
  have hn := new_out A hp
  cases hd : isDic d with
  | false => exact .inl (q d _ H' pd s (.cl (r.clean hn hd)))
  | true =>
    cases r with
    | l _ _ _ => cases hd
    | o _ _ _ => cases hd
    | @t kvs ds h l r =>
      refine .inr (.inr ⟨p, kvs, rfl, h, fun od => q _ _ _ pd (same_upd2 hp s ⟨_, h, rfl, not_code trivial⟩) (.cl (.tdict (od := od) ?_ l r.1 ?_))⟩)
      · rw [sub_out hn]; exact upd_same
      · have e : Grow (sub H' (p :: (F.ls0 ++ own))) (sub (upd H' p (.frz od (.dT kvs))) (F.ls0 ++ own)) := by
          rw [← sub_upd (H := H') (o := .frz od (.dT kvs)) (List.mem_cons_self (a := p) (l := F.ls0 ++ own))]
          exact sub_less fun a h => List.mem_cons_of_mem _ h
        exact Reps.mono e r.2
    | @d kvs ds h l r =>
      refine .inr (.inl ⟨p, kvs, rfl, h, fun od => q _ _ _ pd (same_upd2 hp s ⟨_, h, rfl, not_code trivial⟩) (.cl (.dict (od := od) ?_ l ?_))⟩)
      · rw [sub_out hn]; exact upd_same
      · have e : Grow (sub H' (p :: (F.ls0 ++ own))) (sub (upd H' p (.frz od (.dK kvs))) (F.ls0 ++ own)) := by
          rw [← sub_upd (H := H') (o := .frz od (.dK kvs)) (List.mem_cons_self (a := p) (l := F.ls0 ++ own))]
          exact sub_less fun a h => List.mem_cons_of_mem _ h
        exact r.mono e⟩)
theorem df_lst (h : DA X W es false la) : DF X W (.List es pos) (mLst la) :=
  PE.imp (pe_lst h) fun σ H Q ⟨F, own, δ, P, EK, A, m, q⟩ => ⟨F, own, δ, _, EK, A, m, fun ds vs H1 m1 s1 r1 => by
    obtain ⟨hl, m1⟩ := m1
    have hz : vs.length ≤ sizeLine := by rw [r1.length]; exact hl
    refine ⟨hz, fun p hp => ?_⟩
    exact q _ _ _ m1 (s1.free hp) (s1.trans (same_upd hp)) (.l upd_same hz (r1.clean.mono (sub_fresh hp (same_upd hp))))⟩
/-! ### places -/
/-- the i-th item, from behind if i is negative -/
def fIx (x y : D) (Q : D → Prop) : Prop := match x, y with
  | .list ds, .int i => ∃ d, atI ds i = some d ∧ Q d
  | .tup ds, .int i => ∃ d, atI ds i = some d ∧ Q d
  | .script ns, .int i => ∃ n, atI ns i = some n ∧ Q (.int n)
  | .str z, .int i => ∃ c, z.length ≤ sizeLine ∧ atI z.cps.toList i = some c ∧ Q (.str ⟨#[c]⟩)
  | _, _ => False
theorem atI_rel {α β : Type} {R : α → β → Prop} {xs : List α} {ys : List β} {i : Int} {y : β} (hl : xs.length = ys.length) (h : ∀ (j : Nat) (y : β), ys[j]? = some y → ∃ x, xs[j]? = some x ∧ R x y) (e : atI ys i = some y) : ∃ x, atI xs i = some x ∧ R x y := by
  unfold atI at e ⊢
  rw [hl]
  cases q : ixN ys.length i with
  | none => rw [q] at e; cases e
  | some j =>
    rw [q] at e
    exact h j y e
theorem link_ix : LinkOp X.K (rIx X.K) fIx := by
  intro fo ls H x y dx dy P Q ht rx ry h q
  unfold fIx at h
  split at h
  · obtain ⟨d, e, p⟩ := h
    obtain ⟨a, xs, rfl, ha, hz, rs⟩ := rx.list
    obtain ⟨v, ev, rv⟩ := atI_rel rs.length (fun j y => rs.get') e
    exact .inl ⟨a, xs, _, v, rfl, ry.isInt, .of ha, ev, q d v H p (Same.refl H) rv⟩
  · obtain ⟨d, e, p⟩ := h
    obtain ⟨a, xs, rfl, ha, hz, rs⟩ := rx.tup
    obtain ⟨v, ev, rv⟩ := atI_rel rs.length (fun j y => rs.get') e
    exact .inr (.inl ⟨a, xs, _, v, rfl, ry.isInt, ha, ev, q d v H p (Same.refl H) rv⟩)
  · obtain ⟨n, e, p⟩ := h
    cases rx with
    | cl rx =>
      cases rx with
      | script hs hl =>
        obtain ⟨v, ev, rv⟩ := atI_rel (R := fun v n => v = V.int n) (xs := List.map V.int _) (by rw [List.length_map]) (fun j y h => ⟨.int y, by rw [List.getElem?_map, h]; rfl, rfl⟩) e
        subst rv
        exact .inl ⟨_, _, _, _, rfl, ry.isInt, sub_le.seq hs, ev, q _ _ H p (Same.refl H) (.int n)⟩
  · obtain ⟨c, hz, e, p⟩ := h
    have := rx.isStr
    subst this
    exact .inr (.inr ⟨_, _, _, rfl, ry.isInt, hz, e, q _ _ H p (Same.refl H) (.str _)⟩)
  · exact h.elim
theorem de_ix (hs : PlainIx b) (ha : DE X W a ba ma) (hb : DE X W b bb mb) : DE X W (.Subscript a b pos) false (mBin fIx ma mb) :=
  PE.imp (pe_ix ix_seq ha hb hs) fun _ _ _ h => link_two link_ix h
/-! ### calls of built-ins -/
def mB (f : List D → (D → Prop) → Prop) (la : LM) : TM := fun δ Q E => la δ (fun ds => f ds Q) E
def LinkB (K : PySem.W.Frag) (r : List V → Hp → VK → Prop) (f : List D → (D → Prop) → Prop) : Prop := ∀ (fo ls : List Addr) (H : Hp) (vs : List V) (ds : List D) (P : D → Prop) (Q : VK), (∀ l, l ∈ ls → ∃ o, H l = some o ∧ Plain o) → RVs K fo ls H true vs ds → f ds P →
  (∀ d v H', P d → Same H H' → Rep K (sub H' ls) v d → Q v H') → r vs H Q
theorem link_b {r : List V → Hp → VK → Prop} {f : List D → (D → Prop) → Prop} (lk : LinkB X.K r f) {σ : L2.St} {H : Hp} {Q : VK} (h : tm X.K W false (mB f la) σ H Q) : tCB r (tal X.K W ba la) σ H Q := by
  obtain ⟨F, own, δ, P, EK, A, m, q⟩ := h
  refine ⟨F, own, δ, _, EK, A, m, fun ds vs H1 m1 s1 r1 => ?_⟩
  exact lk _ _ H1 vs ds P Q (A.env.grow s1).trk r1.up m1 fun d v H' p s3 r3 => q d v H' p (s1.trans s3) (.cl r3)
variable {x : Str} {p : Pos} {id T : String} {r : List V → Hp → VK → Prop} {f : List D → (D → Prop) → Prop}
theorem de_callB (hc : CallR X (.builtin id) r) (lk : LinkB X.K r f) (hg : Gl X x) (hm : X.mg x = none) (hv : bootBuiltins x = some (.builtin id)) (ha : DA X W (e :: es) ba la) (hn : x ≠ "__name__" := by decide) (hdb : (x == ("__debug__" : Str)) = false := by decide)
    (he : starEach (e :: es) X.env = (false, eval e X.env) :: starEach es X.env := by rfl) (hpl : (backTo pos (starEach es X.env)).any (·.1) = false := by rfl) : DE X W (.Call (.Name x p) (e :: es) [] pos) false (mB f la) :=
  PE.imp (pe_callB hc hg hm hv ha hn hdb he hpl) fun _ _ _ h => link_b lk h
theorem de_callT (hc : CallR X (.type T) r) (lk : LinkB X.K r f) (hg : Gl X x) (hm : X.mg x = none) (hv : bootBuiltins x = some (.type T)) (ha : DA X W (e :: es) ba la) (hn : x ≠ "__name__" := by decide) (hdb : (x == ("__debug__" : Str)) = false := by decide)
    (he : starEach (e :: es) X.env = (false, eval e X.env) :: starEach es X.env := by rfl) (hpl : (backTo pos (starEach es X.env)).any (·.1) = false := by rfl) : DE X W (.Call (.Name x p) (e :: es) [] pos) false (mB f la) :=
  PE.imp (pe_callTy hc hg hm hv ha hn hdb he hpl) fun _ _ _ h => link_b lk h
/-- .. that give a new container -/
def LinkF (K : PySem.W.Frag) (r : List V → Hp → VK → Prop) (f : List D → (D → Prop) → Prop) : Prop := ∀ (fo ls : List Addr) (H : Hp) (vs : List V) (ds : List D) (P : D → Prop) (Q : VK), (∀ l, l ∈ ls → ∃ o, H l = some o ∧ Plain o) → RVs K fo ls H true vs ds → f ds P →
  (∀ d p H', P d → H p = none → Same H H' → FV K (p :: ls) H' p d → Q (.ref p) H') → r vs H Q
theorem link_f {r : List V → Hp → VK → Prop} {f : List D → (D → Prop) → Prop} (lk : LinkF X.K r f) {σ : L2.St} {H : Hp} {Q : VK} (h : tf X.K W (mB f la) σ H Q) : tCB r (tal X.K W ba la) σ H Q := by
  obtain ⟨F, own, δ, P, EK, A, m, q⟩ := h
  refine ⟨F, own, δ, _, EK, A, m, fun ds vs H1 m1 s1 r1 => ?_⟩
  exact lk _ _ H1 vs ds P Q (A.env.grow s1).trk r1.up m1 fun d v H' p hn s3 r3 => q d v H' p (s1.free hn) (s1.trans s3) r3
theorem df_callB (hc : CallR X (.builtin id) r) (lk : LinkF X.K r f) (hg : Gl X x) (hm : X.mg x = none) (hv : bootBuiltins x = some (.builtin id)) (ha : DA X W (e :: es) ba la) (hn : x ≠ "__name__" := by decide) (hdb : (x == ("__debug__" : Str)) = false := by decide)
    (he : starEach (e :: es) X.env = (false, eval e X.env) :: starEach es X.env := by rfl) (hpl : (backTo pos (starEach es X.env)).any (·.1) = false := by rfl) : DF X W (.Call (.Name x p) (e :: es) [] pos) (mB f la) :=
  PE.imp (pe_callB hc hg hm hv ha hn hdb he hpl) fun _ _ _ h => link_f lk h
theorem df_callT (hc : CallR X (.type T) r) (lk : LinkF X.K r f) (hg : Gl X x) (hm : X.mg x = none) (hv : bootBuiltins x = some (.type T)) (ha : DA X W (e :: es) ba la) (hn : x ≠ "__name__" := by decide) (hdb : (x == ("__debug__" : Str)) = false := by decide)
    (he : starEach (e :: es) X.env = (false, eval e X.env) :: starEach es X.env := by rfl) (hpl : (backTo pos (starEach es X.env)).any (·.1) = false := by rfl) : DF X W (.Call (.Name x p) (e :: es) [] pos) (mB f la) :=
  PE.imp (pe_callTy hc hg hm hv ha hn hdb he hpl) fun _ _ _ h => link_f lk h
end
end DL
set_option Elab.async false
set_option linter.all false
set_option maxRecDepth 100000
set_option maxHeartbeats 4000000
/-! DL3: names set, cells of one's own, statements, loops. -/
namespace DL
open PySem PySem.Spec PyProof.Rows L2
variable [TabsC]
theorem sub_congr {H : Hp} {ls ls' : List Addr} (h : ∀ a, a ∈ ls ↔ a ∈ ls') : sub H ls = sub H ls' := by
  funext a
  unfold sub
  by_cases e : a ∈ ls
  · rw [if_pos e, if_pos ((h a).mp e)]
  · rw [if_neg e, if_neg fun z => e ((h a).mpr z)]
theorem mem_swap {ls own : List Addr} {p : Addr} (a : Addr) : a ∈ p :: (ls ++ own) ↔ a ∈ ls ++ (p :: own) := by
  simp only [List.mem_cons, List.mem_append]
  constructor
  · rintro (h | h | h)
    · exact .inr (.inl h)
    · exact .inl h
    · exact .inr (.inr h)
  · rintro (h | h | h)
    · exact .inr (.inl h)
    · exact .inl h
    · exact .inr (.inr h)
theorem set_get {α : Type} {l : List α} {i j : Nat} {x y : α} (h : (l.set i x)[j]? = some y) : (j = i ∧ i < l.length ∧ y = x) ∨ (j ≠ i ∧ l[j]? = some y) := by
  by_cases e : j = i
  · subst e
    by_cases hl : j < l.length
    · rw [List.getElem?_set_self hl] at h
      cases h
      exact .inl ⟨rfl, hl, rfl⟩
    · rw [List.set_eq_of_length_le (Nat.le_of_not_lt hl)] at h
      exact absurd (List.getElem?_eq_some_iff.mp h).1 hl
  · rw [List.getElem?_set_ne (Ne.symm e)] at h
    exact .inr ⟨e, h⟩
theorem TabS.less {H : Hp} {a P : Addr} {q : Str} {o : HO} (h : H a = some o) (n : Plain o) (t : LamX.TabS H P q) : LamX.TabS (sub H [a]) P q := by
  obtain ⟨ps, h1, h2, h3⟩ := t
  have nP : P ∉ [a] := fun z => by
    rw [List.mem_singleton.mp z, h] at h1
    cases h1
    cases n.1
  refine ⟨ps, by rw [sub_out nP]; exact h1, h2, fun pos cv hc => ?_⟩
  obtain ⟨c, e1, e2⟩ := h3 pos cv hc
  refine ⟨c, e1, ?_⟩
  rw [sub_out fun z => ?_]
  · exact e2
  · rw [List.mem_singleton.mp z, h] at e2
    exact n.2.1 _ _ (Option.some.inj e2)
/-- one cell is another one -/
theorem same_put {H : Hp} {a : Addr} {o : HO} : Same (sub H [a]) (upd H a o) := by
  have key : ∀ b u, sub H [a] b = some u → upd H a o b = some u := fun b u h => by
    by_cases e : b = a
    · rw [sub_in (by simp [e])] at h; cases h
    · rw [sub_out (by simpa using e)] at h
      rw [upd_ne e]; exact h
  exact Same.of key
theorem Same.but {H0 H H' : Hp} {a : Addr} {o : HO} (e : Same H0 H) (h0 : H0 a = none) (h : H a = some o) (n : Plain o) (s : Same (sub H [a]) H') : Same H0 H' := by
  refine ⟨⟨fun b u q hb => s.ob.get b u ?_ hb⟩, fun t => s.tb fun p hp => TabS.less h n (e.tb t p hp), fun b z => ?_⟩
  · rw [sub_out (by simpa using ne_of_none q h0)]
    exact e.ob.get b u q hb
  · have := s.ne b z
    by_cases hb : b = a
    · rw [hb]; exact h0
    · rw [sub_out (by simpa using hb)] at this
      exact e.ne b this
theorem Same.butSub {H H' : Hp} {a : Addr} {ls : List Addr} (ha : a ∈ ls) (s : Same (sub H [a]) H') : Grow (sub H ls) (sub H' ls) := ⟨fun b u q hb => by
  by_cases hl : b ∈ ls
  · rw [sub_in hl] at q; cases q
  · rw [sub_out hl] at q ⊢
    refine s.ob.get b u ?_ hb
    rw [sub_out (fun z => hl (by rw [List.mem_singleton.mp z]; exact ha))]
    exact q⟩
theorem Same.butAt {H H' : Hp} {a b : Addr} {u : HO} (s : Same (sub H [a]) H') (hb : b ≠ a) (h : H b = some u) (n : isTbl u = false := by rfl) : H' b = some u := s.ob.get b u (by rw [sub_out (by simpa using hb)]; exact h) n
theorem RV.grow {K : PySem.W.Frag} {fo ls ls' : List Addr} {H H' : Hp} {a : Addr} {d : D} (g : Grow (sub H ls) (sub H' ls')) (k : ∀ u, H a = some u → isTbl u = false → H' a = some u) (r : RV K fo ls H true (.ref a) d) : RV K fo ls' H' true (.ref a) d := by
  cases r with
  | cl r => exact .cl (r.mono g)
  | ml n p q r => exact .ml n (k _ p rfl) q (r.mono g)
  | md n p q r => exact .md n (k _ p rfl) q (r.mono g)
  | mt n p q r => exact .mt n (k _ p rfl) q (r.mono g)
  | mo n c p r => exact .mo n c (k _ p rfl) (r.mono g)
section
variable {K : PySem.W.Frag} {F : Fm} {own : List Addr} {σ : L2.St} {δ : List DV} {H H' : Hp}
theorem EnvD.lent_set (E : EnvD K F own σ δ H) {i : Nat} {x : DV} {σ' : L2.St} (hx : ∀ d, x ≠ .s d) (hσ : ∀ j, j ≠ i → σ'[j]? = σ[j]?) (j : Nat) (d : D) (a : Addr) (h : (δ.set i x)[j]? = some (.s d)) (h2 : σ'[j]? = some (some (.ref a))) : F.H0 a = none := by
  rcases set_get h with ⟨_, _, z⟩ | ⟨ne, h⟩
  · exact absurd z.symm (hx d)
  · rw [hσ j ne] at h2; exact E.lent j d a h h2
theorem EnvD.alone_set (E : EnvD K F own σ δ H) {i : Nat} {x : DV} {σ' : L2.St} (hx : ∀ d, x ≠ .s d) (hσ : ∀ j, j ≠ i → σ'[j]? = σ[j]?) (j k : Nat) (dj dk : D) (a : Addr) (h1 : (δ.set i x)[j]? = some (.s dj)) (h2 : (δ.set i x)[k]? = some (.s dk)) (h3 : σ'[j]? = some (some (.ref a))) (h4 : σ'[k]? = some (some (.ref a))) : j = k := by
  rcases set_get h1 with ⟨_, _, z⟩ | ⟨n1, h1⟩
  · exact absurd z.symm (hx dj)
  rcases set_get h2 with ⟨_, _, z⟩ | ⟨n2, h2⟩
  · exact absurd z.symm (hx dk)
  rw [hσ j n1] at h3
  rw [hσ k n2] at h4
  exact E.alone j k dj dk a h1 h2 h3 h4
theorem set_off {i : Nat} {x : Option V} (j : Nat) (h : j ≠ i) : (σ.set i x)[j]? = σ[j]? := List.getElem?_set_ne (Ne.symm h)
theorem EnvD.set (E : EnvD K F own σ δ H) (i : Nat) {v : V} {d : D} (r : Rep K (sub H (F.ls0 ++ own)) v d) : EnvD K F own (σ.set i (some v)) (δ.set i (.v d)) H := by
  refine ⟨E.same, E.imm, E.tabs, E.new, E.trk, E.sep, by rw [List.length_set, List.length_set]; exact E.len, fun j dv h => ?_, E.lent_set (fun d z => by cases z) set_off, E.alone_set (fun d z => by cases z) set_off, fun j k dj dk a h1 h2 h3 h4 => ?_⟩
  · rcases set_get h with ⟨rfl, hl, rfl⟩ | ⟨ne, h⟩
    · exact ⟨some v, List.getElem?_set_self (by rw [E.len]; exact hl), v, rfl, r⟩
    · obtain ⟨s, e, q⟩ := E.slot j dv h
      exact ⟨s, by rw [List.getElem?_set_ne (Ne.symm ne)]; exact e, q⟩
  · rcases set_get h1 with ⟨_, _, z⟩ | ⟨n1, h1⟩
    · cases z
    rcases set_get h2 with ⟨_, _, z⟩ | ⟨n2, h2⟩
    · cases z
    rw [List.getElem?_set_ne (Ne.symm n1)] at h3
    rw [List.getElem?_set_ne (Ne.symm n2)] at h4
    exact E.apart j k dj dk a h1 h2 h3 h4
theorem EnvD.unset (E : EnvD K F own σ δ H) (i : Nat) (s : Option V) : EnvD K F own (σ.set i s) (δ.set i .u) H := by
  refine ⟨E.same, E.imm, E.tabs, E.new, E.trk, E.sep, by rw [List.length_set, List.length_set]; exact E.len, fun j dv h => ?_, E.lent_set (fun d z => by cases z) set_off, E.alone_set (fun d z => by cases z) set_off, fun j k dj dk a h1 h2 h3 h4 => ?_⟩
  · rcases set_get h with ⟨rfl, hl, rfl⟩ | ⟨ne, h⟩
    · exact ⟨s, List.getElem?_set_self (by rw [E.len]; exact hl), trivial⟩
    · obtain ⟨s, e, q⟩ := E.slot j dv h
      exact ⟨s, by rw [List.getElem?_set_ne (Ne.symm ne)]; exact e, q⟩
  · rcases set_get h1 with ⟨_, _, z⟩ | ⟨n1, h1⟩
    · cases z
    rcases set_get h2 with ⟨_, _, z⟩ | ⟨n2, h2⟩
    · cases z
    rw [List.getElem?_set_ne (Ne.symm n1)] at h3
    rw [List.getElem?_set_ne (Ne.symm n2)] at h4
    exact E.apart j k dj dk a h1 h2 h3 h4
/-- a new cell is ours -/
theorem EnvD.grab (E : EnvD K F own σ δ H) {p : Addr} (hp : H p = none) (e : Same H H') (hn : ∃ o, H' p = some o ∧ Plain o) : EnvD K F (p :: own) σ δ H' := by
  have sf : Grow (sub H (F.ls0 ++ own)) (sub H' (F.ls0 ++ (p :: own))) := by
    rw [← sub_congr (H := H') (mem_swap (ls := F.ls0) (own := own) (p := p))]
    exact sub_fresh hp e
  have E' := E.grow e
  refine ⟨E'.same, E.imm.trans sf, E'.tabs, fun l h => ?_, fun l h => ?_, fun l h => ?_, E.len, fun j dv h => ?_, E.lent, E.alone, E.apart⟩
  · rcases List.mem_cons.mp h with rfl | h
    · exact E.same.free hp
    · exact E.new l h
  · rcases List.mem_cons.mp ((mem_swap l).mpr h) with rfl | h
    · exact hn
    · exact E'.trk l h
  · rcases List.mem_cons.mp h with rfl | h
    · intro z
      obtain ⟨o, q, nn⟩ := E.trk l (List.mem_append_left _ z)
      rw [hp] at q; cases q
    · exact E.sep l h
  · obtain ⟨s, e1, q⟩ := E.slot j dv h
    refine ⟨s, e1, ?_⟩
    cases dv with
    | u => trivial
    | v d => obtain ⟨x, e2, r⟩ := q; exact ⟨x, e2, r.mono sf⟩
    | m d =>
      obtain ⟨a, e2, ha, r⟩ := q
      exact ⟨a, e2, List.mem_cons_of_mem _ ha, r.grow sf fun u h n => e.ob.get _ u h n⟩
    | s d => obtain ⟨a, C, dx, n, fs, ds, e1, h1, h2, h3, h4, r⟩ := q; exact ⟨a, C, dx, n, fs, ds, e1, h1, h2, h3, e _ _ h4, r.mono sf⟩
theorem EnvD.setm (E : EnvD K F own σ δ H) (i : Nat) {p : Addr} {d : D} (hp : H p = none) (e : Same H H') (r : FV K (p :: (F.ls0 ++ own)) H' p d) : EnvD K F (p :: own) (σ.set i (some (.ref p))) (δ.set i (.m d)) H' := by
  have hn : ∃ o, H' p = some o ∧ Plain o := by
    cases r with
    | l h _ _ => exact ⟨_, h, plain_of⟩
    | d h _ _ => exact ⟨_, h, plain_of⟩
    | t h _ _ => exact ⟨_, h, plain_of⟩
    | o _ h _ => exact ⟨_, h, plain_of⟩
  have G := E.grab hp e hn
  have np : ∀ (j : Nat) (dj : D), δ[j]? = some (.m dj) → σ[j]? ≠ some (some (.ref p)) := fun j dj h z => by
    obtain ⟨s, e1, a, e2, ha, _⟩ := E.slot j _ h
    rw [e1] at z; cases z
    cases e2
    obtain ⟨o, q, nn⟩ := E.trk p (List.mem_append_right _ ha)
    rw [hp] at q; cases q
  refine ⟨G.same, G.imm, G.tabs, G.new, G.trk, G.sep, by rw [List.length_set, List.length_set]; exact G.len, fun j dv h => ?_, G.lent_set (fun d z => by cases z) set_off, G.alone_set (fun d z => by cases z) set_off, fun j k dj dk a h1 h2 h3 h4 => ?_⟩
  · rcases set_get h with ⟨rfl, hl, rfl⟩ | ⟨ne, h⟩
    · refine ⟨some (.ref p), List.getElem?_set_self (by rw [G.len]; exact hl), p, rfl, List.mem_cons_self, ?_⟩
      have out : p ∉ F.ls0 := fun z => by
        obtain ⟨o, q, nn⟩ := E.trk p (List.mem_append_left _ z)
        rw [hp] at q; cases q
      cases r with
      | l q1 q2 q3 => exact .ml out q1 q2 (by rw [← sub_congr mem_swap]; exact q3)
      | d q1 q2 q3 => exact .md out q1 q2 (by rw [← sub_congr mem_swap]; exact q3)
      | t q1 q2 q3 => exact .mt out q1 q2 (by rw [← sub_congr mem_swap]; exact q3)
      | o q1 q2 q3 => exact .mo out q1 q2 (by rw [← sub_congr mem_swap]; exact q3)
    · obtain ⟨s, e, q⟩ := G.slot j dv h
      exact ⟨s, by rw [List.getElem?_set_ne (Ne.symm ne)]; exact e, q⟩
  · rcases set_get h1 with ⟨a1, l1, _⟩ | ⟨n1, g1⟩
    · subst a1
      rw [List.getElem?_set_self (by rw [G.len]; exact l1)] at h3
      cases h3
      rcases set_get h2 with ⟨a2, _, _⟩ | ⟨n2, g2⟩
      · exact a2.symm
      · rw [List.getElem?_set_ne (Ne.symm n2)] at h4
        exact absurd h4 (np k dk g2)
    · rw [List.getElem?_set_ne (Ne.symm n1)] at h3
      rcases set_get h2 with ⟨a2, l2, _⟩ | ⟨n2, g2⟩
      · subst a2
        rw [List.getElem?_set_self (by rw [G.len]; exact l2)] at h4
        cases h4
        exact absurd h3 (np j dj g1)
      · rw [List.getElem?_set_ne (Ne.symm n2)] at h4
        exact E.apart j k dj dk a g1 g2 h3 h4
/-- a cell of ours is turned: all else stays -/
theorem EnvD.turn (E : EnvD K F own σ δ H) {i : Nat} {a : Addr} {d d' : D} {o o' : HO} (h : δ[i]? = some (.m d)) (hs : σ[i]? = some (some (.ref a))) (ho : H a = some o) (hp : Plain o) (s : Same (sub H [a]) H') (ho' : H' a = some o') (r : RV K F.ls0 (F.ls0 ++ own) H' true (.ref a) d') (hp' : Plain o' := by exact plain_of) : EnvD K F own σ (δ.set i (.m d')) H' := by
  obtain ⟨s0, e1, a', e2, ha, _⟩ := E.slot i _ h
  rw [e1] at hs; cases hs
  cases e2
  have hin : a ∈ F.ls0 ++ own := List.mem_append_right _ ha
  have g : Grow (sub H (F.ls0 ++ own)) (sub H' (F.ls0 ++ own)) := s.butSub hin
  refine ⟨E.same.but (E.new a ha) ho hp s, E.imm.trans g, s.tb fun p hq => TabS.less ho hp (E.tabs p hq), E.new, fun l hl => ?_, E.sep, by rw [List.length_set]; exact E.len, fun j dv hj => ?_, E.lent_set (fun d z => by cases z) (fun _ _ => rfl), E.alone_set (fun d z => by cases z) (fun _ _ => rfl), fun j k dj dk b h1 h2 h3 h4 => ?_⟩
  · by_cases z : l = a
    · exact ⟨o', by rw [z]; exact ho', hp'⟩
    · obtain ⟨u, q, nn⟩ := E.trk l hl
      exact ⟨u, s.ob.get l u (by rw [sub_out (by simpa using z)]; exact q) nn.1, nn⟩
  · rcases set_get hj with ⟨rfl, _, rfl⟩ | ⟨ne, hj⟩
    · exact ⟨_, e1, a, rfl, ha, r⟩
    · obtain ⟨s1, q1, q⟩ := E.slot j dv hj
      refine ⟨s1, q1, ?_⟩
      cases dv with
      | u => trivial
      | v d => obtain ⟨x, q2, r2⟩ := q; exact ⟨x, q2, r2.mono g⟩
      | m d2 =>
        obtain ⟨c, q2, hc, r2⟩ := q
        subst q2
        have nca : c ≠ a := fun z => ne (E.apart j i d2 d a hj h (by rw [q1, z]) e1)
        exact ⟨c, rfl, hc, r2.grow g fun u hu n => s.butAt nca hu n⟩
      | s d2 =>
        obtain ⟨b, C, dx, n, fs, ds, q2, h1, h2, h3, h4, r⟩ := q
        have nba : b ≠ a := fun z => E.sep a ha (by rw [← z]; exact h1)
        exact ⟨b, C, dx, n, fs, ds, q2, h1, h2, h3, s.butAt nba h4, r.mono g⟩
  · have back : ∀ (j : Nat) (dj : D), (δ.set i (.m d'))[j]? = some (.m dj) → ∃ dj', δ[j]? = some (.m dj') := fun j dj q => by
      rcases set_get q with ⟨rfl, _, _⟩ | ⟨_, q⟩
      · exact ⟨d, h⟩
      · exact ⟨dj, q⟩
    obtain ⟨x1, y1⟩ := back j dj h1
    obtain ⟨x2, y2⟩ := back k dk h2
    exact E.apart j k x1 x2 b y1 y2 h3 h4
/-- a cell that is lent to us is turned -/
theorem EnvD.turnS (E : EnvD K F own σ δ H) {i : Nat} {a C dx C1 dx1 : Addr} {d : D} {n : Str} {fs fs' : List (Str × V)} {ds' : List (Str × D)} (h : δ[i]? = some (.s d)) (hs : σ[i]? = some (some (.ref a))) (ho : H a = some (.ins C dx fs)) (s : Same (sub H [a]) H') (hn : PySem.W.nsIn K mainGlobals n = some (some (.ref C1))) (ho' : H' a = some (.ins C1 dx1 fs'))
    (r : RepFs K (sub H' (F.ls0 ++ own)) fs' ds') : EnvD K F own σ (δ.set i (.s (.obj n ds'))) H' := by
  obtain ⟨s0, e1, a', C', dx', n', fs0, ds0, e2, ha, ed, hC, hH, rf⟩ := E.slot i _ h
  rw [e1] at hs; cases hs
  cases e2
  have h0 := E.lent i d a h e1
  have hp : Plain (.ins C dx fs) := plain_of
  have hin : a ∈ F.ls0 ++ own := List.mem_append_left _ ha
  have g : Grow (sub H (F.ls0 ++ own)) (sub H' (F.ls0 ++ own)) := s.butSub hin
  have back : ∀ (j : Nat) (dj : D), (δ.set i (.s (.obj n ds')))[j]? = some (.s dj) → ∃ dj', δ[j]? = some (.s dj') := fun j dj q => by
    rcases set_get q with ⟨rfl, _, _⟩ | ⟨_, q⟩
    · exact ⟨d, h⟩
    · exact ⟨dj, q⟩
  refine ⟨E.same.but h0 ho hp s, E.imm.trans g, s.tb fun p hq => TabS.less ho hp (E.tabs p hq), E.new, fun l hl => ?_, E.sep, by rw [List.length_set]; exact E.len, fun j dv hj => ?_, fun j dj b h1 h2 => ?_, fun j k dj dk b h1 h2 h3 h4 => ?_, fun j k dj dk b h1 h2 h3 h4 => ?_⟩
  · by_cases z : l = a
    · exact ⟨_, by rw [z]; exact ho', plain_of⟩
    · obtain ⟨u, q, nn⟩ := E.trk l hl
      exact ⟨u, s.ob.get l u (by rw [sub_out (by simpa using z)]; exact q) nn.1, nn⟩
  · rcases set_get hj with ⟨rfl, _, rfl⟩ | ⟨ne, hj⟩
    · exact ⟨_, e1, a, C1, dx1, n, fs', ds', rfl, ha, rfl, hn, ho', r⟩
    · obtain ⟨s1, q1, q⟩ := E.slot j dv hj
      refine ⟨s1, q1, ?_⟩
      cases dv with
      | u => trivial
      | v d => obtain ⟨x, q2, r2⟩ := q; exact ⟨x, q2, r2.mono g⟩
      | m d2 =>
        obtain ⟨c, q2, hc, r2⟩ := q
        have nca : c ≠ a := fun z => E.sep c hc (by rw [z]; exact ha)
        exact ⟨c, q2, hc, r2.grow g fun u hu n => s.butAt nca hu n⟩
      | s d2 =>
        obtain ⟨b, C, dx, n, fs, ds, q2, h1, h2, h3, h4, r⟩ := q
        subst q2
        have nba : b ≠ a := fun z => ne (E.alone j i d2 d a hj h (by rw [q1, z]) e1)
        exact ⟨b, C, dx, n, fs, ds, rfl, h1, h2, h3, s.butAt nba h4, r.mono g⟩
  · obtain ⟨x1, y1⟩ := back j dj h1
    exact E.lent j x1 b y1 h2
  · obtain ⟨x1, y1⟩ := back j dj h1
    obtain ⟨x2, y2⟩ := back k dk h2
    exact E.alone j k x1 x2 b y1 y2 h3 h4
  · have bm : ∀ (j : Nat) (dj : D), (δ.set i (.s (.obj n ds')))[j]? = some (.m dj) → δ[j]? = some (.m dj) := fun j dj q => by
      rcases set_get q with ⟨_, _, z⟩ | ⟨_, q⟩
      · cases z
      · exact q
    exact E.apart j k dj dk b (bm j dj h1) (bm k dk h2) h3 h4
/-- a cell of ours is written -/
theorem EnvD.put (E : EnvD K F own σ δ H) {i : Nat} {a : Addr} {d d' : D} {o o' : HO} (h : δ[i]? = some (.m d)) (hs : σ[i]? = some (some (.ref a))) (ho : H a = some o') (r : RV K F.ls0 (F.ls0 ++ own) (upd H a o) true (.ref a) d') (hp : Plain o' := by exact plain_of) (hp2 : Plain o := by exact plain_of) : EnvD K F own σ (δ.set i (.m d')) (upd H a o) :=
  E.turn h hs ho hp same_put upd_same r hp2
/-- a cell of ours is done: plain data from now on; a dict is locked -/
theorem EnvD.fin (E : EnvD K F own σ δ H) {i : Nat} {a : Addr} {d : D} {o : HO} (h : δ[i]? = some (.m d)) (hs : σ[i]? = some (some (.ref a))) (ho : H a = some o) (hp : Plain o) (s : Same (sub H [a]) H') (r : ∀ ls, a ∉ ls → Grow (sub H (F.ls0 ++ own)) (sub H' ls) → Rep K (sub H' ls) (.ref a) d) (hn : ∃ u, H' a = some u ∧ Plain u) :
    ∃ own', EnvD K F own' σ (δ.set i (.v d)) H' := by
  obtain ⟨s0, e1, a', e2, ha, _⟩ := E.slot i _ h
  rw [e1] at hs; cases hs
  cases e2
  have hin : a ∈ F.ls0 ++ own := List.mem_append_right _ ha
  refine ⟨own.filter fun b => decide (b ≠ a), ?_⟩
  have sub' : ∀ b, b ∈ F.ls0 ++ own.filter (fun b => decide (b ≠ a)) → b ∈ F.ls0 ++ own := fun b hb => by
    rcases List.mem_append.mp hb with z | z
    · exact List.mem_append_left _ z
    · exact List.mem_append_right _ (List.mem_filter.mp z).1
  have le : Grow (sub H (F.ls0 ++ own)) (sub H' (F.ls0 ++ own.filter fun b => decide (b ≠ a))) := (s.butSub hin).trans (sub_less sub')
  have out : a ∉ F.ls0 ++ own.filter (fun b => decide (b ≠ a)) := fun z => by
    rcases List.mem_append.mp z with z | z
    · exact E.sep a ha z
    · have := (List.mem_filter.mp z).2
      simp at this
  refine ⟨E.same.but (E.new a ha) ho hp s, E.imm.trans le, s.tb fun p hq => TabS.less ho hp (E.tabs p hq), fun l hl => E.new l (List.mem_filter.mp hl).1, fun l hl => ?_, fun l hl => E.sep l (List.mem_filter.mp hl).1, by rw [List.length_set]; exact E.len, fun j dv hj => ?_, E.lent_set (fun d z => by cases z) (fun _ _ => rfl), E.alone_set (fun d z => by cases z) (fun _ _ => rfl), fun j k dj dk b h1 h2 h3 h4 => ?_⟩
  · by_cases z : l = a
    · obtain ⟨u, e, n⟩ := hn
      exact ⟨u, by rw [z]; exact e, n⟩
    · obtain ⟨u, q, nn⟩ := E.trk l (sub' l hl)
      exact ⟨u, s.ob.get l u (by rw [sub_out (by simpa using z)]; exact q) nn.1, nn⟩
  · rcases set_get hj with ⟨rfl, _, rfl⟩ | ⟨ne, hj⟩
    · exact ⟨_, e1, _, rfl, r _ out le⟩
    · obtain ⟨s1, q1, q⟩ := E.slot j dv hj
      refine ⟨s1, q1, ?_⟩
      cases dv with
      | u => trivial
      | v d => obtain ⟨x, q2, r2⟩ := q; exact ⟨x, q2, r2.mono le⟩
      | m d2 =>
        obtain ⟨c, q2, hc, r2⟩ := q
        subst q2
        have nca : c ≠ a := fun z => ne (E.apart j i d2 d a hj h (by rw [q1, z]) e1)
        exact ⟨c, rfl, List.mem_filter.mpr ⟨hc, by simpa using nca⟩, r2.grow le fun u hu n => s.butAt nca hu n⟩
      | s d2 =>
        obtain ⟨b, C, dx, n, fs, ds, q2, h1, h2, h3, h4, r⟩ := q
        have nba : b ≠ a := fun z => E.sep a ha (by rw [← z]; exact h1)
        exact ⟨b, C, dx, n, fs, ds, q2, h1, h2, h3, s.butAt nba h4, r.mono le⟩
  · rcases set_get h1 with ⟨_, _, z⟩ | ⟨n1, h1⟩
    · cases z
    rcases set_get h2 with ⟨_, _, z⟩ | ⟨n2, h2⟩
    · cases z
    exact E.apart j k dj dk b h1 h2 h3 h4
theorem same_less {a : Addr} : Same (sub H [a]) H := Same.of fun b u q => by
  by_cases hb : b ∈ [a]
  · rw [sub_in hb] at q; cases q
  · rw [sub_out hb] at q; exact q
theorem EnvD.frz (E : EnvD K F own σ δ H) {i : Nat} {d : D} (h : δ[i]? = some (.m d)) (hd : isDic d = false) : ∃ own', EnvD K F own' σ (δ.set i (.v d)) H := by
  obtain ⟨s, e1, a, e2, ha, r⟩ := E.slot i _ h
  subst e2
  obtain ⟨u, hu, nn⟩ := E.trk a (List.mem_append_right _ ha)
  cases r with
  | cl r =>
    -- nothing stands in the cell that is told: it is a name's value as it is
    refine ⟨own, E.same, E.imm, E.tabs, E.new, E.trk, E.sep, by rw [List.length_set]; exact E.len, fun j dv hj => ?_, E.lent_set (fun d z => by cases z) (fun _ _ => rfl), E.alone_set (fun d z => by cases z) (fun _ _ => rfl), fun j k dj dk b h1 h2 h3 h4 => ?_⟩
    · rcases set_get hj with ⟨rfl, _, rfl⟩ | ⟨ne, hj⟩
      · exact ⟨_, e1, _, rfl, r⟩
      · exact E.slot j dv hj
    · rcases set_get h1 with ⟨_, _, z⟩ | ⟨n1, h1⟩
      · cases z
      rcases set_get h2 with ⟨_, _, z⟩ | ⟨n2, h2⟩
      · cases z
      exact E.apart j k dj dk b h1 h2 h3 h4
  | ml p0 p1 p2 p3 => exact E.fin h e1 p1 plain_of same_less (fun ls hl g => .list (by rw [sub_out hl]; exact p1) p2 (p3.mono g)) ⟨_, p1, plain_of⟩
  | md p0 p1 p2 p3 => cases hd
  | mt p0 p1 p2 p3 => cases hd
  | mo p0 p1 p2 p3 => exact E.fin h e1 p2 plain_of same_less (fun ls hl g => .obj p1 (by rw [sub_out hl]; exact p2) (p3.mono g)) ⟨_, p2, plain_of⟩
theorem EnvD.dic (E : EnvD K F own σ δ H) {i : Nat} {ds : List (Key × D)} (h : δ[i]? = some (.m (.dict ds))) : ∃ a kvs, σ[i]? = some (some (.ref a)) ∧ a ∈ own ∧ H a = some (.dK kvs) ∧ kvs.length ≤ sizeLine ∧ RepKs K (sub H (F.ls0 ++ own)) kvs ds := by
  obtain ⟨s, e1, a, rfl, ha, r⟩ := E.slot i _ h
  cases r with
  | cl r =>
    cases r with
    | dict h1 _ _ =>
      rw [sub_in (List.mem_append_right _ ha)] at h1; cases h1
  | md n h1 h2 h3 => exact ⟨a, _, e1, ha, h1, h2, h3⟩
theorem EnvD.lockd (E : EnvD K F own σ δ H) {i : Nat} {ds : List (Key × D)} {a : Addr} {kvs : List (Key × V)} (h : δ[i]? = some (.m (.dict ds))) (e1 : σ[i]? = some (some (.ref a))) (ha : H a = some (.dK kvs)) (hz : kvs.length ≤ sizeLine) (hk : RepKs K (sub H (F.ls0 ++ own)) kvs ds) (od : Obj) :
    ∃ own', EnvD K F own' σ (δ.set i (.v (.dict ds))) (upd H a (.frz od (.dK kvs))) :=
  E.fin h e1 ha plain_of same_put (fun ls hl g => .dict (by rw [sub_out hl]; exact upd_same) hz (hk.mono g)) ⟨_, upd_same, plain_of⟩
theorem EnvD.dicT (E : EnvD K F own σ δ H) {i : Nat} {ds : List (List Key × D)} (h : δ[i]? = some (.m (.tdict ds))) : ∃ a kvs, σ[i]? = some (some (.ref a)) ∧ a ∈ own ∧ H a = some (.dT kvs) ∧ kvs.length ≤ sizeLine ∧ RepTs K (sub H (F.ls0 ++ own)) kvs ds := by
  obtain ⟨s, e1, a, rfl, ha, r⟩ := E.slot i _ h
  cases r with
  | cl r =>
    cases r with
    | tdict h1 _ _ _ =>
      rw [sub_in (List.mem_append_right _ ha)] at h1; cases h1
  | mt n h1 h2 h3 => exact ⟨a, _, e1, ha, h1, h2, h3⟩
theorem EnvD.lockdT (E : EnvD K F own σ δ H) {i : Nat} {ds : List (List Key × D)} {a : Addr} {kvs : List (List Key × V)} (h : δ[i]? = some (.m (.tdict ds))) (e1 : σ[i]? = some (some (.ref a))) (ha : H a = some (.dT kvs)) (hz : kvs.length ≤ sizeLine) (hk : RepTs K (sub H (F.ls0 ++ own)) kvs ds) (od : Obj) :
    ∃ own', EnvD K F own' σ (δ.set i (.v (.tdict ds))) (upd H a (.frz od (.dT kvs))) :=
  E.fin h e1 ha plain_of same_put (fun ls hl g => .tdict (by rw [sub_out hl]; exact upd_same) hz hk.1 (Reps.mono g hk.2)) ⟨_, upd_same, plain_of⟩
/-- another floor -/
theorem EnvD.floor (E : EnvD K F own σ δ H) : EnvD K { F with Hi := sub H (F.ls0 ++ own) } own σ δ H := ⟨E.same, Grow.refl _, E.tabs, E.new, E.trk, E.sep, E.len, E.slot, E.lent, E.alone, E.apart⟩
theorem EnvD.unfloor {Hi : Hp} (E : EnvD K { F with Hi := Hi } own σ δ H) (h : Grow F.Hi Hi) : EnvD K F own σ δ H := ⟨E.same, h.trans E.imm, E.tabs, E.new, E.trk, E.sep, E.len, E.slot, E.lent, E.alone, E.apart⟩
end
/-! ### statements -/
structure KD where
  nx : List DV → Prop
  rt : List DV → D → Prop
  bk : List DV → Prop
  ct : List DV → Prop
  er : List DV → Er → Prop
abbrev SM := List DV → KD → Prop
structure LinkS (K : PySem.W.Frag) (W : WX) (F : Fm) (k : KD) (D : Ends) : Prop where
  nx : ∀ σ H own δ, EnvD K F own σ δ H → k.nx δ → D.nx σ H
  rt : ∀ v σ H own δ d, EnvD K F own σ δ H → Rep K (sub H F.ls0) v d → k.rt δ d → D.rt v H
  bk : ∀ σ H own δ, EnvD K F own σ δ H → k.bk δ → D.bk σ H
  ct : ∀ σ H own δ, EnvD K F own σ δ H → k.ct δ → D.ct σ H
  er : ∀ er cls dd σ H own δ, EnvD K F own σ δ H → k.er δ er → RepEr K (F.ls0 ++ own) H cls dd er → W cls dd σ H
def ts (K : PySem.W.Frag) (W : WX) (m : SM) : TS := fun D σ H => ∃ (F : Fm) (own : List Addr) (δ : List DV) (k : KD), EnvD K F own σ δ H ∧ m δ k ∧ LinkS K W F k D
def DS (X : Cx) (W : WX) (st : Stmt) (m : SM) : Prop := PS X st (ts X.K W m)
def DSs (X : Cx) (W : WX) (sts : List Stmt) (m : SM) : Prop := PSs X sts (ts X.K W m)
theorem LinkS.at {K : PySem.W.Frag} {W : WX} {F : Fm} {k : KD} {D : Ends} {σ : L2.St} {H : Hp} {own : List Addr} {δ : List DV} (L : LinkS K W F k D) (E : EnvD K F own σ δ H) : At K W σ H F own δ (k.er δ) :=
  ⟨E, fun er cls dd H' p s r => L.er er cls dd σ H' own δ (E.grow s) p r⟩
section
variable {X : Cx} {W : WX} {a b c e o : Expr} {es rest : List Expr} {st : Stmt} {sts sts' : List Stmt} {ba bb bc : Bool} {ma mb mc : TM} {na nb : BM} {la : LM} {pos : Pos} {m m' : SM}
def sNext : SM := fun δ k => k.nx δ
def sSeq (m m' : SM) : SM := fun δ k => m δ { k with nx := fun δ' => m' δ' k }
theorem dss_nil : DSs X W [] sNext := PSs.imp pss_nil fun D σ H ⟨F, own, δ, k, E, h, L⟩ => L.nx σ H own δ E h
theorem dss_one (h : DS X W st m) : DSs X W [st] m := pss_one h
theorem dss_cons (h : DS X W st m) (h2 : DSs X W sts m') : DSs X W (st :: sts) (sSeq m m') :=
  PSs.imp (pss_cons h h2) fun D σ H ⟨F, own, δ, k, E, h, L⟩ => ⟨F, own, δ, _, E, h, ⟨fun σ' H' own' δ' E' h' => ⟨F, own', δ', k, E', h', L⟩, L.rt, L.bk, L.ct, L.er⟩⟩
/-- a cell of ours is done -/
def frzD (i : Nat) (δ : List DV) : List DV := match δ[i]? with
  | some (.m d) => δ.set i (.v d)
  | _ => δ
def sFrz (i : Nat) (m : SM) : SM := fun δ k => m (frzD i δ) k
theorem dss_frz (i : Nat) (h : DSs X W sts m) : DSs X W sts (sFrz i m) := by
  refine ⟨fun pins s σ H D I ⟨F, own, δ, k, E, q, L⟩ => ?_⟩
  unfold sFrz frzD at q
  split at q
  · rename_i d e
    cases hd : isDic d with
    | false =>
      obtain ⟨own', E'⟩ := E.frz e hd
      exact h.run pins s σ H D I ⟨F, own', _, k, E', q, L⟩
    | true =>
      cases d with
      | dict ds =>
        obtain ⟨a, kvs, e1, ha, h1, h2, h3⟩ := E.dic e
        obtain ⟨od, I2⟩ := Inv.locked I h1
        obtain ⟨own', E'⟩ := E.lockd e e1 h1 h2 h3 od
        exact h.run pins s σ _ D I2 ⟨F, own', _, k, E', q, L⟩
      | tdict ds =>
        obtain ⟨a, kvs, e1, ha, h1, h2, h3⟩ := E.dicT e
        obtain ⟨od, I2⟩ := Inv.lockedT I h1
        obtain ⟨own', E'⟩ := E.lockdT e e1 h1 h2 h3 od
        exact h.run pins s σ _ D I2 ⟨F, own', _, k, E', q, L⟩
      | _ => cases hd
  · exact h.run pins s σ H D I ⟨F, own, δ, k, E, q, L⟩
def sFalse : SM := fun _ _ => False
def sBreak : SM := fun δ k => k.bk δ
def sCont : SM := fun δ k => k.ct δ
def sExpr (ma : TM) : SM := fun δ k => ma δ (fun _ => k.nx δ) (k.er δ)
theorem ds_expr (h : DE X W e ba ma) (hs : swapsWith e none pos.line X.env = pure false := by rfl) : DS X W (.Expr e pos) (sExpr ma) :=
  PS.imp (ps_expr h hs) fun D σ H ⟨F, own, δ, k, E, h, L⟩ => ⟨F, own, δ, _, _, L.at E, h, fun d v H' p s r => L.nx σ H' own δ (E.grow s) p⟩
def sRet (ma : TM) : SM := fun δ k => ma δ (k.rt δ) (k.er δ)
theorem RV.out {K : PySem.W.Frag} {F : Fm} {own : List Addr} {H' : Hp} {b : Bool} {v : V} {d : D} (hd : b = false ∨ isDic d = false) (r : RV K F.ls0 (F.ls0 ++ own) H' b v d) : Rep K (sub H' F.ls0) v d := by
  have le : Grow (sub H' (F.ls0 ++ own)) (sub H' F.ls0) := sub_less fun a h => List.mem_append_left _ h
  cases r with
  | cl r => exact r.mono le
  | ml n h l r => exact .list (by rw [sub_out n]; exact h) l (r.mono le)
  | md n h l r => rcases hd with z | z <;> cases z
  | mt n h l r => rcases hd with z | z <;> cases z
  | mo n c h r => exact .obj c (by rw [sub_out n]; exact h) (r.mono le)
theorem ds_ret (h : DE X W e false ma) : DS X W (.Return (some e) pos) (sRet ma) :=
  PS.imp (ps_ret h) fun D σ H ⟨F, own, δ, k, E, h, L⟩ => ⟨F, own, δ, _, _, L.at E, h, fun d v H' p s r => L.rt v σ H' own δ d (E.grow s) (r.out (.inl rfl)) p⟩
def sRetN : SM := fun δ k => k.rt δ .none
def sIf (na : BM) (m m' : SM) : SM := fun δ k => na δ (fun c => if c = true then m δ k else m' δ k) (k.er δ)
theorem ds_if (hc : DT X W c na) (ha : DSs X W sts m) (hb : DSs X W sts' m') : DS X W (.If c sts sts' pos) (sIf na m m') :=
  PS.imp (ps_if hc ha hb) fun D σ H ⟨F, own, δ, k, E, h, L⟩ => ⟨F, own, δ, _, _, L.at E, h, fun c H' p s => by
    cases c with
    | true => exact iteT ⟨F, own, δ, k, E.grow s, (by simpa using p), L⟩
    | false => exact iteF ⟨F, own, δ, k, E.grow s, (by simpa using p), L⟩⟩
/-! ### targets -/
abbrev GM := D → List DV → (List DV → Prop) → Prop
abbrev GMs := List D → List DV → (List DV → Prop) → Prop
def tgm (K : PySem.W.Frag) (g : GM) : TG := fun v σ H Q => ∃ (F : Fm) (own : List Addr) (δ : List DV) (d : D) (P : List DV → Prop), EnvD K F own σ δ H ∧ Rep K (sub H (F.ls0 ++ own)) v d ∧ g d δ P ∧ ∀ σ' δ', EnvD K F own σ' δ' H → P δ' → Q σ' H
def tgms (K : PySem.W.Frag) (g : GMs) : TGs := fun vs σ H Q => ∃ (F : Fm) (own : List Addr) (δ : List DV) (ds : List D) (P : List DV → Prop), EnvD K F own σ δ H ∧ Reps K (sub H (F.ls0 ++ own)) vs ds ∧ g ds δ P ∧ ∀ σ' δ', EnvD K F own σ' δ' H → P δ' → Q σ' H
def DG (X : Cx) (e : Expr) (g : GM) : Prop := PG X e (tgm X.K g)
def DGs (X : Cx) (es : List Expr) (g : GMs) : Prop := PGs X es (tgms X.K g)
theorem PG.imp {X : Cx} {e : Expr} {t t' : TG} (h : PG X e t) (k : ∀ v σ H Q, t' v σ H Q → t v σ H Q) : PG X e t' := ⟨fun pins s σ H v u Q I r q => h.run pins s σ H v u Q I r (k _ _ _ _ q)⟩
theorem PGs.imp {X : Cx} {e : List Expr} {t t' : TGs} (h : PGs X e t) (k : ∀ v σ H Q, t' v σ H Q → t v σ H Q) : PGs X e t' := ⟨fun pins s σ H v u Q I r q => h.run pins s σ H v u Q I r (k _ _ _ _ q)⟩
def gN (i : Nat) : GM := fun d δ P => P (δ.set i (.v d))
theorem dg_name (i : Nat) {x : Str} (h : PG X (.Name x pos) (gName i)) : DG X (.Name x pos) (gN i) := PG.imp h fun v σ H Q ⟨F, own, δ, d, P, E, r, g, q⟩ => q _ _ (E.set i r) g
def gsNil : GMs := fun ds δ P => ds = [] ∧ P δ
def gsCons (g : GM) (gs : GMs) : GMs := fun ds δ P => ∃ d r, ds = d :: r ∧ g d δ fun δ' => gs r δ' P
theorem dgs_nil : DGs X [] gsNil := PGs.imp pgs_nil fun vs σ H Q ⟨F, own, δ, ds, P, E, r, g, q⟩ => by
  obtain ⟨rfl, g⟩ := g
  cases r
  exact ⟨rfl, q _ _ E g⟩
theorem dgs_cons {g : GM} {gs : GMs} (h1 : DG X e g) (h2 : DGs X es gs) (hs : (assignEach (e :: es) X.env).map (·.2) = assign e X.env :: (assignEach es X.env).map (·.2) := by rfl) : DGs X (e :: es) (gsCons g gs) :=
  PGs.imp (pgs_cons h1 h2 hs) fun vs σ H Q ⟨F, own, δ, ds, P, E, r, g, q⟩ => by
    obtain ⟨d, dr, rfl, g⟩ := g
    cases r with
    | cons r rr => exact ⟨_, _, rfl, F, own, δ, d, _, E, r, g, fun σ' δ' E' g' => ⟨F, own, δ', dr, P, E', rr, g', q⟩⟩
def gT (n : Nat) (gs : GMs) : GM := fun d δ P => ∃ ds, d = .tup ds ∧ ds.length = n ∧ gs ds δ P
theorem dg_tup {j : Nat} {gs : GMs} {n : Nat} (hc : X.calm = true) (h : DGs X es gs) (hn : (assignEach es X.env).length = n := by rfl) (hst : (assignEach es X.env).findIdx? (·.1) = none := by rfl) : DG X (.Tuple es j pos) (gT n gs) :=
  PG.imp (pg_tup hc h hn hst) fun v σ H Q ⟨F, own, δ, d, P, E, r, g, q⟩ => by
    obtain ⟨ds, rfl, hl, g⟩ := g
    cases r with
    | tup h1 h2 h3 => exact ⟨_, _, rfl, sameT sub_le h1, by rw [h3.length]; exact hl, F, own, δ, ds, P, E, h3, g, q⟩
/-! ### stores -/
def sAsg (ma : TM) (g : GM) : SM := fun δ k => ma δ (fun d => g d δ k.nx) (k.er δ)
theorem ds_asg {tg : Expr} {g : GM} (he : DE X W e false ma) (hg : DG X tg g) (hs : swapsWithSole [tg] e pos.line X.env = pure false := by rfl) (hw : swappedStores [tg] e X.env = pure none := by rfl)
    (h1 : (assignEach [tg] X.env).map (·.2) = [assign tg X.env] := by rfl) : DS X W (.Assign [tg] e pos) (sAsg ma g) :=
  PS.imp (ps_asg he hg hs hw h1) fun D σ H ⟨F, own, δ, k, E, h, L⟩ => ⟨F, own, δ, _, _, L.at E, h, fun d v H' p s r =>
    ⟨F, own, δ, d, _, E.grow s, r.clean, p, fun σ' δ' E' q => L.nx σ' H' own δ' E' q⟩⟩
def sSet (i : Nat) (ma : TM) : SM := fun δ k => ma δ (fun d => k.nx (δ.set i (.v d))) (k.er δ)
theorem ds_set (i : Nat) {x : Str} {pos' : Pos} (hN : X.N.Nodup) (he : DE X W e false ma) (hi : X.N[i]? = some x := by rfl) (hx : Loc X.env.scope x := by first | exact .inl rfl | exact .inr rfl) (hs : swapsWith e (some (.Name x pos')) pos.line X.env = pure false := by rfl)
    (hf : X.fn x = true ∨ X.env.scope.names.lookup x = some .local := by first | exact .inl rfl | exact .inr rfl) : DS X W (.Assign [.Name x pos'] e pos) (sSet i ma) :=
  PS.imp (ps_set hN hi hx he hs hf) fun D σ H ⟨F, own, δ, k, E, h, L⟩ => ⟨F, own, δ, _, _, L.at E, h, fun d v H' p s r => L.nx _ H' own _ ((E.grow s).set i r.clean) p⟩
def sSetM (i : Nat) (ma : TM) : SM := fun δ k => ma δ (fun d => k.nx (δ.set i (.m d))) (k.er δ)
theorem ds_setm (i : Nat) {x : Str} {pos' : Pos} (hN : X.N.Nodup) (he : DF X W e ma) (hi : X.N[i]? = some x := by rfl) (hx : Loc X.env.scope x := by first | exact .inl rfl | exact .inr rfl) (hs : swapsWith e (some (.Name x pos')) pos.line X.env = pure false := by rfl)
    (hf : X.fn x = true ∨ X.env.scope.names.lookup x = some .local := by first | exact .inl rfl | exact .inr rfl) : DS X W (.Assign [.Name x pos'] e pos) (sSetM i ma) :=
  PS.imp (ps_set hN hi hx he hs hf) fun D σ H ⟨F, own, δ, k, E, h, L⟩ => ⟨F, own, δ, _, _, L.at E, h, fun d p H' pd hp s r => L.nx _ H' (p :: own) _ (E.setm i hp s r) pd⟩
def sPar (i j : Nat) (la : LM) : SM := fun δ k => la δ (fun ds => ∃ d e, ds = [d, e] ∧ k.nx ((δ.set i (.v d)).set j (.v e))) (k.er δ)
theorem ds_par (i j : Nat) {x y : Str} {px py pt : Pos} {kt k2 : Nat} {pt2 : Pos} (hc : X.calm = true) (hN : X.N.Nodup) (ha : DA X W [a, b] false la) (hi : X.N[i]? = some x := by rfl) (hj : X.N[j]? = some y := by rfl) (hij : i ≠ j := by decide)
    (hx : X.env.scope.names.lookup x = some .local := by rfl) (hy : X.env.scope.names.lookup y = some .local := by rfl)
    (hw : swappedStores [.Tuple [.Name x px, .Name y py] kt pt] (.Tuple [a, b] k2 pt2) X.env = pure (some [x, y]) := by rfl)
    (hs : swapsWithSole [.Tuple [.Name x px, .Name y py] kt pt] (.Tuple [a, b] k2 pt2) pos.line X.env = pure false := by rfl) : DS X W (.Assign [.Tuple [.Name x px, .Name y py] kt pt] (.Tuple [a, b] k2 pt2) pos) (sPar i j la) :=
  PS.imp (ps_par hc hN hi hj hij hx hy ha hw hs) fun D σ H ⟨F, own, δ, k, E, h, L⟩ => ⟨F, own, δ, _, _, L.at E, h, fun ds vs H' p s r => by
    obtain ⟨d, e, rfl, p⟩ := p
    have r := r.clean
    cases r with
    | cons r1 r => cases r with
      | cons r2 r => cases r; exact ⟨_, _, rfl, L.nx _ H' own _ (((E.grow s).set i r1).set j r2) p⟩⟩
end
end DL
set_option Elab.async false
set_option linter.all false
set_option maxRecDepth 100000
set_option maxHeartbeats 4000000
/-! DL4: append, loops, comprehensions. -/
namespace DL
open PySem PySem.Spec PyProof.Rows L2
variable [TabsC]
section
variable {X : Cx} {W : WX} {a b c e o : Expr} {es rest : List Expr} {st : Stmt} {sts sts' : List Stmt} {ba bb bc : Bool} {ma mb mc : TM} {na nb : BM} {la : LM} {pos : Pos} {m m' : SM}
/-! ### a list of one's own grows -/
def sApp (i : Nat) (ma : TM) : SM := fun δ k => ∃ ds, δ[i]? = some (.m (.list ds)) ∧ ma δ (fun d => ds.length < sizeLine ∧ k.nx (δ.set i (.m (.list (ds ++ [d]))))) (k.er δ)
theorem mut_list {K : PySem.W.Frag} {F : Fm} {own : List Addr} {σ : L2.St} {δ : List DV} {H : Hp} {i : Nat} {ds : List D} (E : EnvD K F own σ δ H) (h : δ[i]? = some (.m (.list ds))) :
    ∃ a xs, σ[i]? = some (some (.ref a)) ∧ a ∈ own ∧ H a = some (.lst xs) ∧ xs.length ≤ sizeLine ∧ Reps K (sub H (F.ls0 ++ own)) xs ds := by
  obtain ⟨s, e1, a, rfl, ha, r⟩ := E.slot i _ h
  obtain ⟨a', xs, e2, h1, h2, h3⟩ := r.list
  cases e2
  exact ⟨a, xs, e1, ha, h1, h2, h3⟩
theorem ds_app (i : Nat) {x : Str} {p apos cpos : Pos} (ho : PE X (.Name x p) (tVar i)) (he : DE X W e false ma)
    (hbase : attributeBase (.Name x p) "append" X.env (eval (.Name x p) X.env) = eval (.Name x p) X.env := by rfl)
    (hfew : ((backTo cpos (starEach [e] X.env)).all (fun x => !x.1) && (backToKw cpos (keywordEach [] X.env)).all (fun x => x.1.isSome) && decide (([e] : List Expr).length + ([] : List Keyword).length + (if ([] : List Keyword).isEmpty then 0 else 1) < 30)) = true := by rfl)
    (hline : (apos.endLine == cpos.line) = true := by rfl) (hs : starEach [e] X.env = (false, eval e X.env) :: starEach [] X.env := by rfl)
    (hplain : (backTo cpos (starEach [] X.env)).any (·.1) = false := by rfl) (hsw : swapsWith (.Call (.Attribute (.Name x p) "append" apos) [e] [] cpos) none pos.line X.env = pure false := by rfl) :
    DS X W (.Expr (.Call (.Attribute (.Name x p) "append" apos) [e] [] cpos) pos) (sApp i ma) :=
  PS.imp (ps_expr (pe_bm PySem.F.plainAttrs_list PySem.F.slot_list_append PySem.F.type_list_append mt_append ho (pa_cons he pa_nil hs) hbase hfew hline hs hplain) hsw) fun D σ H ⟨F, own, δ, k, E, h, L⟩ => by
    obtain ⟨ds, hd, h⟩ := h
    obtain ⟨a, xs, e1, ha, h1, h2, h3⟩ := mut_list E hd
    refine ⟨_, e1, .inl ⟨rfl, _, .of h1⟩, F, own, δ, _, _, L.at E, h, fun d v H' p s r => ?_⟩
    obtain ⟨hl, p⟩ := p
    have h1' := s _ _ h1
    have hl' : xs.length < sizeLine := by rw [h3.length]; exact hl
    have es : sub (upd H' a (.lst (xs ++ [v]))) (F.ls0 ++ own) = sub H' (F.ls0 ++ own) := sub_upd (List.mem_append_right _ ha)
    refine ⟨a, xs, v, rfl, rfl, h1', hl', L.nx _ _ own _ ((E.grow s).put hd e1 h1' (.ml (E.sep a ha) upd_same ?_ ?_)) p⟩
    · rw [List.length_append, List.length_singleton]; omega
    · rw [es]
      exact (h3.mono (sub_same s)).append (.cons r.clean .nil)
def sExt (i : Nat) (ma : TM) : SM := fun δ k => ∃ ds, δ[i]? = some (.m (.list ds)) ∧ ma δ (fun d => ∃ es, d = .list es ∧ ds.length + es.length ≤ sizeLine ∧ k.nx (δ.set i (.m (.list (ds ++ es))))) (k.er δ)
/-! ### what is walked -/
structure ItOk (K : PySem.W.Frag) (J : It) (Hg Hb : Hp) (ds : List D) : Prop where
  sz : ds.length ≤ sizeLine
  go : ∀ (i : Nat) H, Grow Hg H → i < ds.length → J.go i H
  stop : ∀ (i : Nat) H, Grow Hg H → i = ds.length → J.stop i H
  yld : ∀ (i : Nat) H x H' ls, Grow Hg H → Grow Hb (sub H ls) → (∀ l, l ∈ ls → ∃ o, H l = some o ∧ Plain o) → i < ds.length → J.yld i H x H' → ∃ d, ds[i]? = some d ∧ Same H H' ∧ Rep K (sub H' ls) x d
theorem ItOk.mono {K : PySem.W.Frag} {J : It} {Hg Hg' Hb : Hp} {ds : List D} (h : ItOk K J Hg Hb ds) (e : Grow Hg Hg') : ItOk K J Hg' Hb ds :=
  ⟨h.sz, fun i H s => h.go i H (e.trans s), fun i H s => h.stop i H (e.trans s), fun i H x H' ls s => h.yld i H x H' ls (e.trans s)⟩
def flo (b : Bool) (H : Hp) (ls : List Addr) : Hp := if b = true then H else sub H ls
def ti (K : PySem.W.Frag) (W : WX) (b : Bool) (mi : LM) : TI := fun σ H R => ∃ (F : Fm) (own : List Addr) (δ : List DV) (P : List D → Prop) (EK : Er → Prop), At K W σ H F own δ EK ∧ mi δ P EK ∧
  ∀ ds J H1, P ds → Same H H1 → ItOk K J (flo b H1 (F.ls0 ++ own)) (sub H1 (F.ls0 ++ own)) ds → R J H1
def DI (X : Cx) (W : WX) (tg it : Expr) (b : Bool) (mi : LM) : Prop := PI X tg it (ti X.K W b mi)
theorem PI.imp {X : Cx} {tg e : Expr} {t t' : TI} (h : PI X tg e t) (k : ∀ σ H Q, t' σ H Q → t σ H Q) : PI X tg e t' := ⟨fun pins s σ H Q I q => h.run pins s σ H Q I (k _ _ _ q)⟩
theorem itok_list {K : PySem.W.Frag} {Hg Hb : Hp} {a : Addr} {xs : List V} {ds : List D} (h : Hg a = some (.lst xs)) (hz : xs.length ≤ sizeLine) (r : Reps K Hb xs ds) : ItOk K (Itl K a) Hg Hb ds where
  sz := by rw [← r.length]; exact hz
  go := fun i H s hi => ⟨xs, xs[i]'(by rw [r.length]; exact hi), .of (s _ _ h), List.getElem?_eq_getElem _⟩
  stop := fun i H s hi => ⟨xs, .of (s _ _ h), by rw [r.length]; omega⟩
  yld := fun i H x H' ls s sb ht hi ⟨e, y⟩ => by
    subst e
    obtain ⟨d, e, r'⟩ := r.get (y xs (.of (s _ _ h)))
    exact ⟨d, e, Same.refl _, r'.mono sb⟩
theorem itok_tup {K : PySem.W.Frag} {Hg Hb : Hp} {a : Addr} {xs : List V} {ds : List D} (h : SqT K Hg a xs) (hz : xs.length ≤ sizeLine) (r : Reps K Hb xs ds) : ItOk K (Itt K a) Hg Hb ds where
  sz := by rw [← r.length]; exact hz
  go := fun i H s hi => ⟨xs, xs[i]'(by rw [r.length]; exact hi), sameT s h, List.getElem?_eq_getElem _⟩
  stop := fun i H s hi => ⟨xs, sameT s h, by rw [r.length]; omega⟩
  yld := fun i H x H' ls s sb ht hi ⟨e, y⟩ => by
    subst e
    obtain ⟨d, e, r'⟩ := r.get (y xs (sameT s h))
    exact ⟨d, e, Same.refl _, r'.mono sb⟩
def mSeq (ma : TM) : LM := fun δ P E => ma δ (fun d => (∃ ds, d = .list ds ∧ P ds) ∨ (∃ ds, d = .tup ds ∧ P ds)) E
theorem flo_list {H : Hp} {b : Bool} {K : PySem.W.Frag} {fo ls : List Addr} {v : V} {ds : List D} (r : RV K fo ls H b v (.list ds)) : ∃ a xs, v = .ref a ∧ flo b H ls a = some (.lst xs) ∧ xs.length ≤ sizeLine ∧ Reps K (sub H ls) xs ds := by
  cases r with
  | cl r =>
    cases r with
    | list h l r =>
      refine ⟨_, _, rfl, ?_, l, r⟩
      unfold flo
      split
      · exact sub_le _ _ h
      · exact h
  | ml n h l r => exact ⟨_, _, rfl, h, l, r⟩
theorem flo_tup {H : Hp} {b : Bool} {K : PySem.W.Frag} {fo ls : List Addr} {v : V} {ds : List D} (r : RV K fo ls H b v (.tup ds)) : ∃ a xs, v = .ref a ∧ SqT K (flo b H ls) a xs ∧ xs.length ≤ sizeLine ∧ Reps K (sub H ls) xs ds := by
  cases r with
  | cl r =>
    cases r with
    | tup h l r =>
      refine ⟨_, _, rfl, ?_, l, r⟩
      unfold flo
      split
      · exact sameT sub_le h
      · exact h
theorem flo_le {H : Hp} {b : Bool} {ls : List Addr} : Grow (flo b H ls) H := by
  unfold flo
  split
  · exact Grow.refl _
  · exact sub_le
theorem di_seq {tg : Expr} (he : DE X W e ba ma) : DI X W tg e ba (mSeq ma) := by
  refine ⟨fun pins s σ H R I ⟨F, own, δ, P, EK, A, m, q⟩ => ?_⟩
  have hr := he.run pins s σ H (fun v H1 => Same H H1 ∧ ((∃ a xs ds, v = .ref a ∧ flo ba H1 (F.ls0 ++ own) a = some (.lst xs) ∧ xs.length ≤ sizeLine ∧ Reps X.K (sub H1 (F.ls0 ++ own)) xs ds ∧ P ds) ∨
    (∃ a xs ds, v = .ref a ∧ SqT X.K (flo ba H1 (F.ls0 ++ own)) a xs ∧ xs.length ≤ sizeLine ∧ Reps X.K (sub H1 (F.ls0 ++ own)) xs ds ∧ P ds))) I ⟨F, own, δ, _, EK, A, m, fun d v H1 p s1 r => ⟨s1, by
      rcases p with ⟨ds, rfl, p⟩ | ⟨ds, rfl, p⟩
      · obtain ⟨a, xs, rfl, h1, h2, h3⟩ := flo_list r
        exact .inl ⟨a, xs, ds, rfl, h1, h2, h3, p⟩
      · obtain ⟨a, xs, rfl, h1, h2, h3⟩ := flo_tup r
        exact .inr ⟨a, xs, ds, rfl, h1, h2, h3, p⟩⟩⟩
  refine thn hr fun v s1 ⟨x, H1, I1, r1, s01, q1⟩ => ?_
  have fresh : ∀ bb, bb ∈ [s1.heap.objs.size] → FpOk X pins H1 bb := fun bb hb => by
    obtain rfl := List.mem_singleton.mp hb
    exact I1.fpOk (Nat.le_refl _) (I1.hok.fresh (Nat.le_refl _))
  have pushed : ∀ ob : Obj, Inv X pins σ H1 { s1 with heap := s1.heap.push ob } := fun ob => I1.kept (t' := s1.toks) fun b o q => Heap.get?_push_of_some _ q
  rcases q1 with ⟨a, xs, ds, rfl, h1, h2, h3, p⟩ | ⟨a, xs, ds, rfl, h1, h2, h3, p⟩
  · cases r1
    obtain ⟨its, rv, pl, hz⟩ := I1.list (SqL.of (flo_le _ _ h1))
    refine wpAny_pyIter_list pl.isList ⟨_, [s1.heap.objs.size], _, _, H1, rfl, pushed _, turn_list a _, ⟨_, Heap.get?_push_size _ rfl, rfl, rfl⟩, fresh, q ds _ H1 p s01 (itok_list h1 h2 h3)⟩
  · cases r1
    obtain ⟨its, rv, pl, hz⟩ := I1.tuple (sameT flo_le h1)
    refine wpAny_pyIter_tuple (show s1.heap.IsTuple a its.toArray from pl) ⟨_, [s1.heap.objs.size], _, _, H1, rfl, pushed _, turn_tuple a _, ⟨_, Heap.get?_push_size _ rfl, rfl, rfl⟩, fresh, q ds _ H1 p s01 (itok_tup h1 h2 h3)⟩
/-- ranges -/
def rangeD (lo : Int) (n : Nat) : List D := (List.range n).map fun i => D.int (lo + (i : Nat))
theorem rangeD_length (lo : Int) (n : Nat) : (rangeD lo n).length = n := by unfold rangeD; rw [List.length_map, List.length_range]
theorem itok_range {K : PySem.W.Frag} {Hg Hb : Hp} {lo : Int} {n : Nat} (hz : n ≤ sizeLine) : ItOk K (Itr lo n) Hg Hb (rangeD lo n) where
  sz := by rw [rangeD_length]; exact hz
  go := fun i H s hi => by rw [rangeD_length] at hi; exact hi
  stop := fun i H s hi => by rw [rangeD_length] at hi; show n ≤ i; omega
  yld := fun i H x H' ls s sb ht hi ⟨e, y⟩ => by
    subst e y
    rw [rangeD_length] at hi
    refine ⟨.int (lo + i), ?_, Same.refl _, .int _⟩
    unfold rangeD
    rw [List.getElem?_map, List.getElem?_range hi]
    rfl
theorem RVs.one {K : PySem.W.Frag} {fo ls : List Addr} {H : Hp} {b : Bool} {vs : List V} {d : D} (r : RVs K fo ls H b vs [d]) : ∃ v, vs = [v] ∧ RV K fo ls H b v d := by
  cases r with
  | cons r t => cases t; exact ⟨_, rfl, r⟩
theorem RVs.two {K : PySem.W.Frag} {fo ls : List Addr} {H : Hp} {b : Bool} {vs : List V} {d d' : D} (r : RVs K fo ls H b vs [d, d']) : ∃ v v', vs = [v, v'] ∧ RV K fo ls H b v d ∧ RV K fo ls H b v' d' := by
  cases r with
  | cons r t => cases t with
    | cons r' t => cases t; exact ⟨_, _, rfl, r, r'⟩
theorem line62 {j : Int} {lo : Int} (h : (j - lo).toNat ≤ sizeLine) (h0 : -(2 ^ 61) ≤ lo) (h1 : lo < 2 ^ 61) (h2 : -(2 ^ 61) ≤ j) : -(2 ^ 62) ≤ lo ∧ lo < 2 ^ 62 ∧ -(2 ^ 62) ≤ j ∧ j < 2 ^ 62 := by
  rw [sizeLine_eq] at h
  omega
def mRange1 (la : LM) : LM := fun δ P E => la δ (fun ds => ∃ j : Int, ds = [.int j] ∧ -(2 ^ 61) ≤ j ∧ j.toNat ≤ sizeLine ∧ P (rangeD 0 j.toNat)) E
def mRange2 (la : LM) : LM := fun δ P E => la δ (fun ds => ∃ i j : Int, ds = [.int i, .int j] ∧ -(2 ^ 61) ≤ i ∧ i < 2 ^ 61 ∧ -(2 ^ 61) ≤ j ∧ (j - i).toNat ≤ sizeLine ∧ P (rangeD i (j - i).toNat)) E
theorem di_range1 {tg : Expr} {p : Pos} (hg : Gl X "range") (hm : X.mg "range" = none) (ha : DA X W [a] true la) (hs : starEach [a] X.env = [(false, eval a X.env)] := by rfl) : DI X W tg (.Call (.Name "range" p) [a] [] pos) ba (mRange1 la) :=
  PI.imp (pi_range1 hg hm ha hs) fun σ H R ⟨F, own, δ, P, EK, A, m, q⟩ => ⟨F, own, δ, _, EK, A, m, fun ds vs H1 p s r => by
    obtain ⟨j, rfl, h0, h1, p⟩ := p
    obtain ⟨v, rfl, rq⟩ := r.one
    have b := line62 (j := j) (lo := 0) (by simpa using h1) (by decide) (by decide) h0
    exact ⟨j, by rw [rq.isInt], b.2.2.1, b.2.2.2, q _ _ H1 p s (itok_range h1)⟩⟩
/-- a text, sign by sign -/
def signsD (x : Str) : List D := x.cps.toList.map fun c => D.str ⟨#[c]⟩
def mSigns (ma : TM) : LM := fun δ P E => ma δ (fun d => ∃ x, d = .str x ∧ x.length ≤ sizeLine ∧ P (signsD x)) E
/-! ### loops -/
def forL (g : GM) (mb : SM) : List D → SM
  | [] => fun δ k => k.nx δ
  | d :: ds => fun δ k => g d δ fun δ' => mb δ' { k with nx := fun δ'' => forL g mb ds δ'' k, ct := fun δ'' => forL g mb ds δ'' k, bk := k.nx }
def sFor (mi : LM) (g : GM) (mb : SM) : SM := fun δ k => mi δ (fun ds => forL g mb ds δ k) (k.er δ)
theorem drop_get {α : Type} {l : List α} {i : Nat} {x : α} (h : l[i]? = some x) : l.drop i = x :: l.drop (i + 1) := by
  obtain ⟨hi, e⟩ := List.getElem?_eq_some_iff.mp h
  rw [← e]
  exact List.drop_eq_getElem_cons hi
theorem ds_for {tg it : Expr} {mi : LM} {g : GM} (hp : PassesOwn (model X.prog X.w) X.A X.env X.xe) (hc : X.calm = true) (hi : DI X W tg it false mi) (hg : DG X tg g) (hb : DSs X W sts m) (hs : ∀ x, foldedSetIterable it X.env x = pure x := by intro _; rfl) :
    DS X W (.For tg it sts [] pos) (sFor mi g m) :=
  PS.imp (ps_for hp hc hi hg hb hs) fun D σ H ⟨F, own, δ, k, E, h, L⟩ => by
    refine ⟨F, own, δ, _, _, L.at E, h, fun ds J H1 hds s1 ok => ?_⟩
    have E1 := E.grow s1
    refine ⟨fun i n σ H => n = ds.length - i ∧ i ≤ ds.length ∧ ∃ own' δ', EnvD X.K { F with Hi := sub H1 (F.ls0 ++ own) } own' σ δ' H ∧ forL g m (ds.drop i) δ' k, ⟨_, rfl, Nat.zero_le _, own, δ, E1.floor, hds⟩, ?_⟩
    rintro i n σ2 H2 ⟨rfl, hi2, own2, δ2, E2, q2⟩
    have sg : Grow (sub H1 (F.ls0 ++ own)) H2 := E2.imm.trans sub_le
    by_cases hlt : i < ds.length
    · refine .inr ⟨ok.go i H2 sg hlt, fun σ H => ∃ own' δ', EnvD X.K { F with Hi := sub H1 (F.ls0 ++ own) } own' σ δ' H ∧ forL g m (ds.drop (i + 1)) δ' k, fun σ' H' ⟨own', δ', E', q'⟩ => ⟨_, (by omega), rfl, hlt, own', δ', E', q'⟩, fun x H3 y => ?_⟩
      obtain ⟨d, ed, s3, r3⟩ := ok.yld i H2 x H3 (F.ls0 ++ own2) sg E2.imm E2.trk hlt y
      rw [drop_get ed] at q2
      refine ⟨_, own2, δ2, d, _, E2.grow s3, r3, q2, fun σ4 δ4 E4 q4 => ⟨_, own2, δ4, _, E4, q4, ?_⟩⟩
      exact ⟨fun σ' H' own' δ' E' q' => ⟨own', δ', E', q'⟩, fun v σ' H' own' δ' d' E' r' q' => L.rt v σ' H' own' δ' d' (E'.unfloor E1.imm) r' q', fun σ' H' own' δ' E' q' => L.nx σ' H' own' δ' (E'.unfloor E1.imm) q', fun σ' H' own' δ' E' q' => ⟨own', δ', E', q'⟩, fun er cls dd σ' H' own' δ' E' q' r' => L.er er cls dd σ' H' own' δ' (E'.unfloor E1.imm) q' r'⟩
    · have e : i = ds.length := by omega
      subst e
      rw [List.drop_length] at q2
      exact .inl ⟨ok.stop _ H2 sg rfl, L.nx _ _ own2 δ2 (E2.unfloor E1.imm) q2⟩
/-! ### comprehensions -/
def wipeD (δ : List DV) : List Nat → List DV
  | [] => δ
  | v :: vs => (wipeD δ vs).set v .u
theorem EnvD.wipe {K : PySem.W.Frag} {F : Fm} {own : List Addr} {σ : L2.St} {δ : List DV} {H : Hp} (E : EnvD K F own σ δ H) : ∀ vs : List Nat, EnvD K F own (L2.wipe σ vs) (wipeD δ vs) H
  | [] => E
  | v :: vs => (EnvD.wipe E vs).unset v none
theorem wipe_at {σ : L2.St} {i : Nat} (hi : i < σ.length) : ∀ {vs : List Nat}, i ∈ vs → (L2.wipe σ vs)[i]? = some none
  | v :: vs, h => by
    unfold L2.wipe
    by_cases e : v = i
    · subst e
      exact List.getElem?_set_self (by rw [wipe_length]; exact hi)
    · rw [List.getElem?_set_ne e]
      rcases List.mem_cons.mp h with z | z
      · exact absurd z.symm e
      · exact wipe_at hi z
theorem wipe_off {σ : L2.St} {i : Nat} : ∀ {vs : List Nat}, i ∉ vs → (L2.wipe σ vs)[i]? = σ[i]?
  | [], _ => rfl
  | v :: vs, h => by
    unfold L2.wipe
    rw [List.getElem?_set_ne fun e => h (by rw [e]; exact List.mem_cons_self)]
    exact wipe_off fun z => h (List.mem_cons_of_mem _ z)
theorem wipe_set {σ : L2.St} {i : Nat} {s : Option V} {vs : List Nat} (h : i ∈ vs) : L2.wipe (σ.set i s) vs = L2.wipe σ vs := by
  apply List.ext_getElem?
  intro j
  by_cases hj : j ∈ vs
  · by_cases hl : j < σ.length
    · rw [wipe_at hl hj, wipe_at (by rw [List.length_set]; exact hl) hj]
    · rw [List.getElem?_eq_none (by rw [wipe_length, List.length_set]; omega), List.getElem?_eq_none (by rw [wipe_length]; omega)]
  · rw [wipe_off hj, wipe_off hj, List.getElem?_set_ne fun e => hj (by rw [← e]; exact h)]
theorem wipe_wipe {σ : L2.St} {vs : List Nat} : L2.wipe (L2.wipe σ vs) vs = L2.wipe σ vs := by
  apply List.ext_getElem?
  intro j
  by_cases hj : j ∈ vs
  · by_cases hl : j < σ.length
    · rw [wipe_at (by rw [wipe_length]; exact hl) hj, wipe_at hl hj]
    · rw [List.getElem?_eq_none (by rw [wipe_length, wipe_length]; omega), List.getElem?_eq_none (by rw [wipe_length]; omega)]
  · rw [wipe_off hj]
/-- targets of a block: they set its own slots alone -/
def tgw (K : PySem.W.Frag) (vs : List Nat) (g : GM) : TG := fun v σ H Q => ∃ (F : Fm) (own : List Addr) (δ : List DV) (d : D) (P : List DV → Prop), EnvD K F own σ δ H ∧ Rep K (sub H (F.ls0 ++ own)) v d ∧ g d δ P ∧ ∀ σ' δ', EnvD K F own σ' δ' H → L2.wipe σ' vs = L2.wipe σ vs → P δ' → Q σ' H
def tgws (K : PySem.W.Frag) (vs : List Nat) (g : GMs) : TGs := fun us σ H Q => ∃ (F : Fm) (own : List Addr) (δ : List DV) (ds : List D) (P : List DV → Prop), EnvD K F own σ δ H ∧ Reps K (sub H (F.ls0 ++ own)) us ds ∧ g ds δ P ∧ ∀ σ' δ', EnvD K F own σ' δ' H → L2.wipe σ' vs = L2.wipe σ vs → P δ' → Q σ' H
def DGw (X : Cx) (vs : List Nat) (e : Expr) (g : GM) : Prop := PG X e (tgw X.K vs g)
def DGws (X : Cx) (vs : List Nat) (es : List Expr) (g : GMs) : Prop := PGs X es (tgws X.K vs g)
variable {vs : List Nat}
theorem dgw_name (i : Nat) {x : Str} (h : PG X (.Name x pos) (gName i)) (hv : i ∈ vs := by decide) : DGw X vs (.Name x pos) (gN i) := PG.imp h fun v σ H Q ⟨F, own, δ, d, P, E, r, g, q⟩ => q _ _ (E.set i r) (wipe_set hv) g
theorem dgws_nil : DGws X vs [] gsNil := PGs.imp pgs_nil fun us σ H Q ⟨F, own, δ, ds, P, E, r, g, q⟩ => by
  obtain ⟨rfl, g⟩ := g
  cases r
  exact ⟨rfl, q _ _ E rfl g⟩
theorem dgws_cons {g : GM} {gs : GMs} (h1 : DGw X vs e g) (h2 : DGws X vs es gs) (hs : (assignEach (e :: es) X.env).map (·.2) = assign e X.env :: (assignEach es X.env).map (·.2) := by rfl) : DGws X vs (e :: es) (gsCons g gs) :=
  PGs.imp (pgs_cons h1 h2 hs) fun us σ H Q ⟨F, own, δ, ds, P, E, r, g, q⟩ => by
    obtain ⟨d, dr, rfl, g⟩ := g
    cases r with
    | cons r rr => exact ⟨_, _, rfl, F, own, δ, d, _, E, r, g, fun σ' δ' E' w' g' => ⟨F, own, δ', dr, P, E', rr, g', fun σ2 δ2 E2 w2 => q σ2 δ2 E2 (w2.trans w')⟩⟩
theorem dgw_tup {j : Nat} {gs : GMs} {n : Nat} (hc : X.calm = true) (h : DGws X vs es gs) (hn : (assignEach es X.env).length = n := by rfl) (hst : (assignEach es X.env).findIdx? (·.1) = none := by rfl) : DGw X vs (.Tuple es j pos) (gT n gs) :=
  PG.imp (pg_tup hc h hn hst) fun v σ H Q ⟨F, own, δ, d, P, E, r, g, q⟩ => by
    obtain ⟨ds, rfl, hl, g⟩ := g
    cases r with
    | tup h1 h2 h3 => exact ⟨_, _, rfl, sameT sub_le h1, by rw [h3.length]; exact hl, F, own, δ, ds, P, E, h3, g, q⟩
def DTs (X : Cx) (W : WX) (ifs : List Expr) (m : BM) : Prop := PTs X ifs (tb X.K W m)
def mYes : BM := fun _ Q _ => Q true
theorem PTs.imp {X : Cx} {e : List Expr} {t t' : TT} (h : PTs X e t) (k : ∀ σ H Q, t' σ H Q → t σ H Q) : PTs X e t' := ⟨fun pins s σ H Q I q => h.run pins s σ H Q I (k _ _ _ q)⟩
theorem dts_nil : DTs X W [] mYes := PTs.imp pts_nil fun σ H Q ⟨F, own, δ, P, EK, A, m, q⟩ => q true H m (Same.refl H)
theorem dts_one (h : DT X W c na) : DTs X W [c] na := pts_one h
def compL (g : GM) (mt : BM) (me : TM) (δ0 : List DV) : List D → List D → (D → Prop) → Prop
  | [], acc, Q => Q (.list acc)
  | d :: ds, acc, Q => g d δ0 fun δ' => mt δ' (fun b => if b = true then me δ' (fun y => compL g mt me δ0 ds (acc ++ [y]) Q) NoE else compL g mt me δ0 ds acc Q) NoE
def mComp (vs : List Nat) (mi : LM) (g : GM) (mt : BM) (me : TM) : TM := fun δ Q E => mi δ (fun ds => compL g mt me (wipeD δ vs) ds [] Q) E
theorem noPass {K : PySem.W.Frag} {ls : List Addr} {σ : L2.St} {H : Hp} {W : WX} : Pass K W ls σ H NoE := fun _ _ _ _ h => h.elim
/-- a cell of ours that no name holds is written -/
theorem EnvD.poke {K : PySem.W.Frag} {F : Fm} {own : List Addr} {σ : L2.St} {δ : List DV} {H : Hp} (E : EnvD K F own σ δ H) {a : Addr} {o o' : HO} (ha : a ∈ own) (ho : H a = some o') (hn : ∀ (j : Nat) (dj : D), δ[j]? = some (.m dj) → σ[j]? ≠ some (some (.ref a))) (hp : Plain o' := by exact plain_of) (hp2 : Plain o := by exact plain_of) : EnvD K F own σ δ (upd H a o) := by
  have hin : a ∈ F.ls0 ++ own := List.mem_append_right _ ha
  have s : Same (sub H [a]) (upd H a o) := same_put
  have g : Grow (sub H (F.ls0 ++ own)) (sub (upd H a o) (F.ls0 ++ own)) := s.butSub hin
  refine ⟨E.same.but (E.new a ha) ho hp s, E.imm.trans g, s.tb fun p hq => TabS.less ho hp (E.tabs p hq), E.new, fun l hl => ?_, E.sep, E.len, fun j dv hj => ?_, E.lent, E.alone, E.apart⟩
  · by_cases z : l = a
    · exact ⟨o, by rw [z]; exact upd_same, hp2⟩
    · obtain ⟨u, q, nn⟩ := E.trk l hl
      exact ⟨u, by rw [upd_ne z]; exact q, nn⟩
  · obtain ⟨s1, q1, q⟩ := E.slot j dv hj
    refine ⟨s1, q1, ?_⟩
    cases dv with
    | u => trivial
    | v d => obtain ⟨x, q2, r2⟩ := q; exact ⟨x, q2, r2.mono g⟩
    | m d2 =>
      obtain ⟨c, q2, hc, r2⟩ := q
      subst q2
      have nca : c ≠ a := fun z => hn j d2 hj (by rw [q1, z])
      exact ⟨c, rfl, hc, r2.grow g fun u hu n => s.butAt nca hu n⟩
    | s d2 =>
      obtain ⟨b, C, dx, n, fs, ds, q2, h1, h2, h3, h4, r⟩ := q
      have nba : b ≠ a := fun z => E.sep a ha (by rw [← z]; exact h1)
      exact ⟨b, C, dx, n, fs, ds, q2, h1, h2, h3, s.butAt nba h4, r.mono g⟩
theorem df_comp {elt tg it : Expr} {ifs : List Expr} {scope : Scope} {own : List (Str × Nat)} {mi : LM} {g : GM} {mt : BM} {me : TM} (hc : X.calm = true) (hN : X.N.Nodup) (hi : DI X W tg it ba mi) (ok : BlkOk X.N X.env.scope scope own)
    (hg : ∀ (s : Shared) (H : Hp) (C : Addr) (cl : List (Str × Addr)) (fp : List Addr), DGw (X.blk s H scope (compEnvC scope cl C X.env) fp) (own.map (·.2)) tg g) (ht : ∀ (s : Shared) (H : Hp) (C : Addr) (cl : List (Str × Addr)) (fp : List Addr), DTs (X.blk s H scope (compEnvC scope cl C X.env) fp) NoW ifs mt)
    (he : ∀ (s : Shared) (H : Hp) (C : Addr) (cl : List (Str × Addr)) (fp : List Addr), DE (X.blk s H scope (compEnvC scope cl C X.env) fp) NoW elt false me) (hs : ∀ x, foldedSetIterable it X.env x = pure x := by intro _; rfl) :
    DF X W (.ListComp elt [⟨tg, it, ifs, 0⟩] scope pos) (mComp (own.map (·.2)) mi g mt me) :=
  PE.imp (pe_lc (g := tgw X.K (List.map (fun x : Str × Nat => x.2) own) g) (tt := tb X.K NoW mt) (te := tm X.K NoW false me) hc hN hi ok hg ht he hs) fun σ H Q ⟨F, ow, δ, P, EK, A, m, q⟩ => by
    refine ⟨F, ow, δ, _, EK, A, m, fun ds J H1 hds s1 ok => ?_⟩
    intro Dn hD
    have E1 := A.env.grow s1
    have nodn : ∀ (j : Nat) (dj : D), (wipeD δ (own.map (·.2)))[j]? = some (.m dj) → (L2.wipe σ (own.map (·.2)))[j]? ≠ some (some (.ref Dn)) := fun j dj h z => by
      obtain ⟨s, e1, a, e2, ha, _⟩ := (E1.wipe (own.map (·.2))).slot j _ h
      rw [e1] at z; cases z
      cases e2
      obtain ⟨o, q, nn⟩ := E1.trk Dn (List.mem_append_right _ ha)
      rw [hD] at q; cases q
    refine ⟨fun i n H => n = ds.length - i ∧ i ≤ ds.length ∧ Same H1 H ∧ EnvD X.K F (Dn :: ow) (L2.wipe σ (own.map (·.2))) (wipeD δ (own.map (·.2))) H ∧ ∃ xs acc, H Dn = some (.lst xs) ∧ xs.length ≤ i ∧ Reps X.K (sub H (F.ls0 ++ (Dn :: ow))) xs acc ∧ compL g mt me (wipeD δ (own.map (·.2))) (ds.drop i) acc P,
      ⟨_, rfl, Nat.zero_le _, same_upd hD, (E1.wipe _).grab hD (same_upd hD) ⟨_, upd_same, plain_of⟩, [], [], upd_same, Nat.le_refl _, .nil, hds⟩, ?_⟩
    rintro i n H2 ⟨rfl, hi2, s2, E2, xs, acc, hx, hl, rx, q2⟩
    have sg : Grow (flo ba H1 (F.ls0 ++ ow)) H2 := flo_le.trans s2.ob
    have sb : Grow (sub H1 (F.ls0 ++ ow)) (sub H2 (F.ls0 ++ (Dn :: ow))) := by
      rw [← sub_congr (H := H2) (mem_swap (ls := F.ls0) (own := ow) (p := Dn))]
      exact sub_fresh hD s2
    by_cases hlt : i < ds.length
    · refine .inr ⟨ok.go i H2 sg hlt, fun H' => Same H1 H' ∧ EnvD X.K F (Dn :: ow) (L2.wipe σ (own.map (·.2))) (wipeD δ (own.map (·.2))) H' ∧ ∃ xs acc, H' Dn = some (.lst xs) ∧ xs.length ≤ i + 1 ∧ Reps X.K (sub H' (F.ls0 ++ (Dn :: ow))) xs acc ∧ compL g mt me (wipeD δ (own.map (·.2))) (ds.drop (i + 1)) acc P,
        fun H' ⟨s', E', z⟩ => ⟨_, (by omega), rfl, hlt, s', E', z⟩, fun x H3 y => ?_⟩
      obtain ⟨d, ed, s3, r3⟩ := ok.yld i H2 x H3 (F.ls0 ++ (Dn :: ow)) sg sb E2.trk hlt y
      rw [drop_get ed] at q2
      have hz : xs.length < sizeLine := Nat.lt_of_le_of_lt hl (Nat.lt_of_lt_of_le hlt ok.sz)
      refine ⟨F, Dn :: ow, _, d, _, E2.grow s3, r3, q2, fun σ4 δ4 E4 w4 q4 => ⟨by rw [w4]; exact wipe_wipe, F, Dn :: ow, δ4, _, NoE, ⟨E4, noPass⟩, q4, fun b H5 p5 s5 => ?_⟩⟩
      cases b with
      | false =>
        have p5' : compL g mt me (wipeD δ (own.map (·.2))) (ds.drop (i + 1)) acc P := by simpa using p5
        exact iteF ⟨(s2.trans s3).trans s5, E2.grow (s3.trans s5), xs, acc, s5 _ _ (s3 _ _ hx), Nat.le_succ_of_le hl, rx.mono (sub_same (s3.trans s5)), p5'⟩
      | true =>
        refine iteT ⟨F, Dn :: ow, δ4, _, NoE, ⟨E4.grow s5, noPass⟩, (by simpa using p5), fun yd v H6 p6 s6 r6 => ?_⟩
        have hx6 := s6 _ _ (s5 _ _ (s3 _ _ hx))
        have es : sub (upd H6 Dn (.lst (xs ++ [v]))) (F.ls0 ++ (Dn :: ow)) = sub H6 (F.ls0 ++ (Dn :: ow)) := sub_upd (List.mem_append_right _ List.mem_cons_self)
        have sn : Same H1 (upd H6 Dn (.lst (xs ++ [v]))) := Same.put (((s2.trans s3).trans s5).trans s6) hD hx6
        refine ⟨xs, hx6, hz, sn, (E2.grow ((s3.trans s5).trans s6)).poke List.mem_cons_self hx6 nodn, xs ++ [v], acc ++ [yd], upd_same, ?_, ?_, p6⟩
        · rw [List.length_append, List.length_singleton]; omega
        · rw [es]
          exact (rx.mono (sub_same ((s3.trans s5).trans s6))).append (.cons r6.clean .nil)
    · have e : i = ds.length := by omega
      subst e
      rw [List.drop_length] at q2
      refine .inl ⟨ok.stop _ H2 sg rfl, q _ Dn H2 q2 (s1.free hD) (s1.trans s2) (.l hx (Nat.le_trans hl ok.sz) ?_)⟩
      rw [sub_congr (H := H2) (mem_swap (ls := F.ls0) (own := ow) (p := Dn))]
      exact rx
end
end DL
set_option Elab.async false
set_option linter.all false
set_option maxRecDepth 100000
set_option maxHeartbeats 4000000
/-! DL5: what a def computes, as data; calls. -/
namespace DL
open PySem PySem.Spec PyProof.Rows L2
variable [TabsC]
/-- no repr runs around; the table of modules stands -/
def GdOk (A : Around) (base : Heap) : Prop := A.guards = some [] ∧ ∃ mm, base.Ns sysModules mm
/-- a def's promise of positional calls where no repr runs around it -/
def FnP (P : Program) (w : World) (K : PySem.W.Frag) (mg : Str → Option Value) (base : Heap) (k : Nat) (f : Addr) (sp : Sp) : Prop :=
  ∀ (A : Around) (outer : List Env) (s : Shared) (H : Hp) (us : List Value) (vs : List V) (Q : VK) (E : XK), GdOk A base → Room k A → Env0 P w K mg base A outer s H → Vals vs us → sp vs H Q E → codeAny (model P w) A (.call (.ref f) ⟨us, []⟩) (CR (L2.CX P w) outer P w H s Q E) s
theorem FnP.mono {P : Program} {w : World} {K : PySem.W.Frag} {mg : Str → Option Value} {base : Heap} {j k : Nat} {f : Addr} {sp : Sp} (F : FnP P w K mg base j f sp) (h : j ≤ k) : FnP P w K mg base k f sp :=
  fun A outer s H us vs Q E hG hr => F A outer s H us vs Q E hG (hr.mono h)
abbrev FM := List D → (D → Prop) → (Er → Prop) → Prop
def spD (K : PySem.W.Frag) (m : FM) : Sp := fun vs H Q E => ∃ (fo : List Addr) (ds : List D) (P : D → Prop) (EK : Er → Prop), (∀ l, l ∈ fo → ∃ o, H l = some o ∧ Plain o) ∧ LamX.Tabs TabsC.T H ∧ Reps K (sub H fo) vs ds ∧ m ds P EK ∧
  (∀ d v H', P d → Same H H' → Rep K (sub H' fo) v d → Q v H') ∧ (∀ er cls dd H', EK er → Same H H' → RepEr K fo H' cls dd er → E cls dd H')
abbrev FnD (P : Program) (w : World) (K : PySem.W.Frag) (mg : Str → Option Value) (base : Heap) (k : Nat) (f : Addr) (m : FM) : Prop := FnP P w K mg base k f (spD K m)
/-- another reckoning that asks no less -/
theorem FnD.imp {P : Program} {w : World} {K : PySem.W.Frag} {mg : Str → Option Value} {base : Heap} {k : Nat} {f : Addr} {m m' : FM} (F : FnD P w K mg base k f m) (h : ∀ ds Q E, m' ds Q E → m ds Q E) : FnD P w K mg base k f m' :=
  fun A outer s H us vs Q E hG hr e r ⟨fo, ds, P, EK, t, tb, rs, m, q⟩ => F A outer s H us vs Q E hG hr e r ⟨fo, ds, P, EK, t, tb, rs, h _ _ _ m, q⟩
/-! .. of a method that may write its self -/
abbrev MM := D → List D → (D → D → Prop) → (D → Er → Prop) → Prop
def spM (K : PySem.W.Frag) (m : MM) : Sp := fun vs H Q E => ∃ (fo : List Addr) (x C dx : Addr) (n : Str) (ws : List V) (fs : List (Str × V)) (dfs : List (Str × D)) (ds : List D) (P : D → D → Prop) (EK : D → Er → Prop), vs = .ref x :: ws ∧ x ∈ fo ∧ (∀ l, l ∈ fo → ∃ o, H l = some o ∧ Plain o) ∧ LamX.Tabs TabsC.T H ∧
  PySem.W.nsIn K mainGlobals n = some (some (.ref C)) ∧ H x = some (.ins C dx fs) ∧ RepFs K (sub H fo) fs dfs ∧ Reps K (sub H fo) ws ds ∧ m (.obj n dfs) ds P EK ∧
  (∀ n' dfs' d v H' C' dx' fs', P (.obj n' dfs') d → PySem.W.nsIn K mainGlobals n' = some (some (.ref C')) → Same (sub H [x]) H' → H' x = some (.ins C' dx' fs') → RepFs K (sub H' fo) fs' dfs' → Rep K (sub H' fo) v d → Q v H') ∧
  (∀ n' dfs' er cls dd H' C' dx' fs', EK (.obj n' dfs') er → PySem.W.nsIn K mainGlobals n' = some (some (.ref C')) → Same (sub H [x]) H' → H' x = some (.ins C' dx' fs') → RepFs K (sub H' fo) fs' dfs' → RepEr K fo H' cls dd er → E cls dd H')
abbrev FnM (P : Program) (w : World) (K : PySem.W.Frag) (mg : Str → Option Value) (base : Heap) (k : Nat) (f : Addr) (m : MM) : Prop := FnP P w K mg base k f (spM K m)
theorem FnM.imp {P : Program} {w : World} {K : PySem.W.Frag} {mg : Str → Option Value} {base : Heap} {k : Nat} {f : Addr} {m m' : MM} (F : FnM P w K mg base k f m) (h : ∀ d ds Q E, m' d ds Q E → m d ds Q E) : FnM P w K mg base k f m' :=
  fun A outer s H us vs Q E hG hr e r ⟨fo, x, C, dx, n, ws, fs, dfs, ds, P, EK, ev, hx, t, tb, hn, ha, rf, rs, m, q⟩ => F A outer s H us vs Q E hG hr e r ⟨fo, x, C, dx, n, ws, fs, dfs, ds, P, EK, ev, hx, t, tb, hn, ha, rf, rs, h _ _ _ _ m, q⟩
def startD (n : Nat) (ds : List D) : List DV := ds.map DV.v ++ List.replicate (n - ds.length) DV.u
def endK (P : D → Prop) (EK : Er → Prop) : KD := ⟨fun _ => P .none, fun _ d => P d, fun _ => False, fun _ => False, fun _ er => EK er⟩
/-- the body's reckoning as the def's: np parameters -/
def mFun (np n : Nat) (m : SM) : FM := fun ds P EK => ds.length = np ∧ m (startD n ds) (endK P EK)
/-- .. with defaults for the last ones -/
def mFunD (np n : Nat) (dds : List D) (m : SM) : FM := fun ds P EK => ds.length ≤ np ∧ np ≤ ds.length + dds.length ∧ m (startD n (ds ++ dds.drop (ds.length + dds.length - np))) (endK P EK)
/-- .. with a star behind the parameters -/
def mFunS (np n : Nat) (m : SM) : FM := fun ds P EK => np ≤ ds.length ∧ ds.length ≤ sizeLine ∧ m (startD n (ds.take np ++ [.tup (ds.drop np)])) (endK P EK)
def endM (P : D → D → Prop) (EK : D → Er → Prop) : KD := ⟨fun δ => ∃ d, δ[0]? = some (.s d) ∧ P d .none, fun δ r => ∃ d, δ[0]? = some (.s d) ∧ P d r, fun _ => False, fun _ => False, fun δ er => ∃ d, δ[0]? = some (.s d) ∧ EK d er⟩
def mFunM (np n : Nat) (m : SM) : MM := fun self ds P EK => ds.length + 1 = np ∧ m (.s self :: startD (n - 1) ds) (endM P EK)
def mFunMD (np n : Nat) (dds : List D) (m : SM) : MM := fun self ds P EK => ds.length + 1 ≤ np ∧ np ≤ ds.length + 1 + dds.length ∧ m (.s self :: startD (n - 1) (ds ++ dds.drop (ds.length + 1 + dds.length - np))) (endM P EK)
def mFunMS (n : Nat) (m : SM) : MM := fun self ds P EK => ds.length ≤ sizeLine ∧ m (.s self :: startD (n - 1) [.tup ds]) (endM P EK)
theorem start_slot {K : PySem.W.Frag} {fo : List Addr} {vs : List V} {ds : List D} {H : Hp} {n m : Nat} (r : Reps K (sub H fo) vs ds) (e : n - ds.length = m - vs.length) : ∀ (i : Nat) (dv : DV), (startD n ds)[i]? = some dv → ∃ s, (vs.map some ++ List.replicate (m - vs.length) none)[i]? = some s ∧ ((∃ d v, dv = .v d ∧ s = some v ∧ Rep K (sub H fo) v d) ∨ dv = .u) := by
  intro i dv h
  have hl := r.length
  unfold startD at h
  by_cases hi : i < ds.length
  · rw [List.getElem?_append_left (by simpa using hi), List.getElem?_map, List.getElem?_eq_getElem hi] at h
    have h' : DV.v ds[i] = dv := Option.some.inj h
    subst h'
    obtain ⟨v, ev, rv⟩ := r.get' (List.getElem?_eq_getElem hi)
    refine ⟨some v, ?_, .inl ⟨_, v, rfl, rfl, rv⟩⟩
    rw [List.getElem?_append_left (by rw [List.length_map, hl]; exact hi), List.getElem?_map, ev]
    rfl
  · rw [List.getElem?_append_right (by simpa using hi), List.getElem?_replicate] at h
    split at h
    · cases h
      rename_i hq
      refine ⟨none, ?_, .inr rfl⟩
      rw [List.getElem?_append_right (by rw [List.length_map, hl]; omega), List.getElem?_replicate, if_pos]
      rw [List.length_map] at hq ⊢
      rw [← e, hl]
      exact hq
    · cases h
theorem startD_len {n : Nat} {ds : List D} : (startD n ds).length = ds.length + (n - ds.length) := by
  unfold startD
  rw [List.length_append, List.length_map, List.length_replicate]
theorem startD_kind {n i : Nat} {ds : List D} {dv : DV} (h : (startD n ds)[i]? = some dv) : (∃ d, dv = .v d) ∨ dv = .u := by
  unfold startD at h
  by_cases hi : i < ds.length
  · rw [List.getElem?_append_left (by simpa using hi), List.getElem?_map, List.getElem?_eq_getElem hi] at h
    exact .inl ⟨_, (Option.some.inj h).symm⟩
  · rw [List.getElem?_append_right (by simpa using hi), List.getElem?_replicate] at h
    split at h
    · exact .inr (Option.some.inj h).symm
    · cases h
theorem env_start {K : PySem.W.Frag} {fo : List Addr} {vs : List V} {ds : List D} {H : Hp} {N : List Str} (ht : ∀ l, l ∈ fo → ∃ o, H l = some o ∧ Plain o) (tb : LamX.Tabs TabsC.T H) (r : Reps K (sub H fo) vs ds) : EnvD K ⟨fo, H, sub H fo⟩ [] (L2.start N vs) (startD N.length ds) H := by
  have e : fo ++ [] = fo := List.append_nil fo
  have hl := r.length
  have no : ∀ (i : Nat) (d : D), (startD N.length ds)[i]? ≠ some (.s d) ∧ (startD N.length ds)[i]? ≠ some (.m d) := fun i d => by
    constructor
    · intro z
      rcases startD_kind z with ⟨_, q⟩ | q <;> cases q
    · intro z
      rcases startD_kind z with ⟨_, q⟩ | q <;> cases q
  refine ⟨Same.refl H, by rw [e]; exact Grow.refl _, tb, fun l h => absurd h (by simp), fun l h => ht l (by rw [← e]; exact h), fun l h => absurd h (by simp), ?_, fun i dv h => ?_, fun i d a h => absurd h (no i d).1, fun i j di dj a h => absurd h (no i di).1, fun i j di dj a h => absurd h (no i di).2⟩
  · rw [startD_len]
    unfold L2.start
    rw [List.length_append, List.length_map, List.length_replicate, hl]
  · obtain ⟨s, hs, q⟩ := start_slot (m := N.length) r (by rw [hl]) i dv h
    refine ⟨s, hs, ?_⟩
    rcases q with ⟨d, v, rfl, rfl, rv⟩ | rfl
    · exact ⟨v, rfl, by rw [e]; exact rv⟩
    · trivial
/-- .. of a method, its self lent -/
theorem env_startM {K : PySem.W.Frag} {fo : List Addr} {x C dx : Addr} {n : Str} {ws : List V} {fs : List (Str × V)} {dfs : List (Str × D)} {ds : List D} {H : Hp} {N : List Str} (hN : N ≠ []) (hx : x ∈ fo) (ht : ∀ l, l ∈ fo → ∃ o, H l = some o ∧ Plain o) (tb : LamX.Tabs TabsC.T H) (hn : PySem.W.nsIn K mainGlobals n = some (some (.ref C))) (ha : H x = some (.ins C dx fs)) (rf : RepFs K (sub H fo) fs dfs) (r : Reps K (sub H fo) ws ds) :
    EnvD K ⟨fo, sub H [x], sub H fo⟩ [] (L2.start N (.ref x :: ws)) (.s (.obj n dfs) :: startD (N.length - 1) ds) H := by
  have e : fo ++ [] = fo := List.append_nil fo
  have hl := r.length
  have hp : 0 < N.length := List.length_pos_iff.mpr hN
  have es : L2.start N (.ref x :: ws) = some (.ref x) :: (ws.map some ++ List.replicate (N.length - 1 - ws.length) none) := by
    unfold L2.start
    rw [List.map_cons, List.length_cons, List.cons_append, show N.length - (ws.length + 1) = N.length - 1 - ws.length by omega]
  have no : ∀ (i : Nat) (d : D), (.s (.obj n dfs) :: startD (N.length - 1) ds)[i]? = some (.s d) → i = 0 := fun i d h => by
    cases i with
    | zero => rfl
    | succ i =>
      rcases startD_kind (by simpa using h) with ⟨_, q⟩ | q <;> cases q
  have nm : ∀ (i : Nat) (d : D), (.s (.obj n dfs) :: startD (N.length - 1) ds)[i]? ≠ some (.m d) := fun i d h => by
    cases i with
    | zero => cases h
    | succ i =>
      rcases startD_kind (by simpa using h) with ⟨_, q⟩ | q <;> cases q
  refine ⟨same_less, by rw [e]; exact Grow.refl _, tb, fun l h => absurd h (by simp), fun l h => ht l (by rw [← e]; exact h), fun l h => absurd h (by simp), ?_, fun i dv h => ?_, fun i d a h h2 => ?_, fun i j di dj a h h2 _ _ => by rw [no i di h, no j dj h2], fun i j di dj a h => absurd h (nm i di)⟩
  · rw [es, List.length_cons, List.length_cons, startD_len, List.length_append, List.length_map, List.length_replicate, hl]
  · rw [es]
    cases i with
    | zero =>
      cases h
      exact ⟨_, rfl, x, C, dx, n, fs, dfs, rfl, hx, rfl, hn, ha, by rw [e]; exact rf⟩
    | succ i =>
      obtain ⟨s, hs, q⟩ := start_slot (m := N.length - 1) r (by rw [hl]) i dv (by simpa using h)
      refine ⟨s, by simpa using hs, ?_⟩
      rcases q with ⟨d, v, rfl, rfl, rv⟩ | rfl
      · exact ⟨v, rfl, by rw [e]; exact rv⟩
      · trivial
  · have := no i d h
    subst this
    rw [es] at h2
    cases h2
    exact sub_in (List.mem_singleton.mpr rfl)
section
variable {P : Program} {w : World} {K : PySem.W.Frag} {mg : Str → Option Value} {base : Heap}
/-- THE RULE for a def, by its body's reading -/
theorem fnP_of {x qual : Str} {st : Stmt} {f : Addr} {fd : FuncData} {N ps : List Str} {k : Nat} {sp sb : Sp} (F : Fun K x qual st f fd) (S : FnScope N ps (defScope st))
    (har : ∀ (s : Shared) (us : List Value) (vs : List V) (H : Hp) (Q : VK) (E : XK), K.In s.heap → Vals vs us → sp vs H Q E → ∃ vs' us', Vals vs' us' ∧ vs'.length = ps.length ∧ BindsTo s fd ⟨us, []⟩ (ps.zip us') ∧ sb vs' H Q E)
    (hbody : ∀ (cdv : Value) (A : Around) (outer : List Env) (s : Shared) (H : Hp) (vs : List V) (Q : VK) (E : XK), GdOk A base → Room k (A.deeper (envOfC qual (defScope st) s.heap.objs.size f cdv)) → sb vs H Q E →
      ∃ t, PSs (cxOf (L2.CX P w) P w K mg base N qual (defScope st) f cdv A outer s H E) (defBody st) t ∧ t { nx := fun _ H' => Q .non H', rt := Q } (L2.start N vs) H) : FnP P w K mg base (k + 1) f sp := by
  obtain ⟨oc, od, kV, doc, pm, an, cdv, ct, osl, rfl, lk, hcd⟩ := F.ex
  intro A outer s H us0 vs0 Q E hG hr e0 r0 hsp0
  have KX : K.In s.heap := e0.mod.kin.keeps fun b o e => (e0.bs b o e).1
  obtain ⟨vs, us, r, hl, hb, hsp⟩ := har s us0 vs0 H Q E KX r0 hsp0
  have lim : s.heap.NoLimit := e0.mod.nolimit.keeps fun b o e => (e0.bs b o e).1
  refine codeAny_call_function hr.depth (KX _ _ lk) rfl S.co S.gen rfl (PySem.W.codeRec_of KX hcd) (hb _ _ _ _ ?_)
  refine wpAny_newFunctionEnv_cells S.kind (fun ⟨n, v⟩ hy => ?_) fun env he s1 x => ?_
  · rcases S.par n (List.of_mem_zip hy).1 with q | q
    · exact .inl q
    · exact .inr ⟨q, PySem.W.cellsFrom_some _ _ _ (.inl q)⟩
  subst he
  refine ⟨lim.keeps x.toInCall.keep, codeAny_func ?_⟩
  have I : Inv (cxOf (L2.CX P w) P w K mg base N qual (defScope st) f cdv A outer s H E) [] (L2.start N vs) H s1 := inv_start S hr.hd e0 hl r x
  obtain ⟨t, ht, hw⟩ := hbody cdv A outer s H vs Q E hG (hr.deeper _) hsp
  refine wpAny_mono (ht.run [] s1 _ H _ I hw) (fun fl s' hs => ?_) fun e s' hs => hs
  cases fl with
  | ret u =>
    obtain ⟨v, σ', H', J, rv, q⟩ := hs
    exact ⟨v, H', J.os, J.bare, J.base, J.hok, rv, q⟩
  | next =>
    obtain ⟨σ', H', J, q⟩ := hs
    exact ⟨V.non, H', J.os, J.bare, J.base, J.hok, rfl, q⟩
  | brk =>
    obtain ⟨_, _, _, q⟩ := hs
    exact q.elim
  | cont =>
    obtain ⟨_, _, _, q⟩ := hs
    exact q.elim
/-- .. with a star behind np parameters -/
theorem fnP_star {x qual pv : Str} {st : Stmt} {f : Addr} {fd : FuncData} {N ps : List Str} {k : Nat} {sp sb : Sp} (F : Fun K x qual st f fd) (S : FnScope N (ps ++ [pv]) (defScope st))
    (hb : ∀ us rest : List Value, us.length = ps.length → bindArgs fd ⟨us ++ rest, []⟩ = (newTuple rest >>= fun t => pure (ps.zip us ++ [(pv, t)])))
    (har : ∀ (vs : List V) (H : Hp) (Q : VK) (E : XK), sp vs H Q E → ∃ ws rest, vs = ws ++ rest ∧ ws.length = ps.length ∧ rest.length ≤ sizeLine ∧ ∀ p, H p = none → sb (ws ++ [V.ref p]) (upd H p (.tup rest)) Q E)
    (hbody : ∀ (cdv : Value) (A : Around) (outer : List Env) (s : Shared) (H : Hp) (vs : List V) (Q : VK) (E : XK), GdOk A base → Room k (A.deeper (envOfC qual (defScope st) s.heap.objs.size f cdv)) → sb vs H Q E →
      ∃ t, PSs (cxOf (L2.CX P w) P w K mg base N qual (defScope st) f cdv A outer s H E) (defBody st) t ∧ t { nx := fun _ H' => Q .non H', rt := Q } (L2.start N vs) H) : FnP P w K mg base (k + 1) f sp := by
  obtain ⟨oc, od, kV, doc, pm, an, cdv, ct, osl, rfl, lk, hcd⟩ := F.ex
  intro A outer s H us vs Q E hG hr e0 r hsp0
  obtain ⟨ws, rest, ev, hl, hz, hq⟩ := har vs H Q E hsp0
  subst ev
  obtain ⟨u1, u2, eu, r1, r2⟩ := StX.vals_split r
  subst eu
  have hn : H s.heap.objs.size = Option.none := e0.hok.fresh (Nat.le_refl _)
  have hl1 : u1.length = ps.length := by rw [← r1.length]; exact hl
  have hl2 : u2.length ≤ sizeLine := by rw [← r2.length]; exact hz
  refine StX.run_bnd lk hcd S hr e0 (G := fun xs H2 => ∃ p, H p = Option.none ∧ xs = ws ++ [V.ref p] ∧ H2 = upd H p (.tup rest)) (fun A' Ex Q' h => ?_) fun s2 H2 xs ⟨p, hp, ex, eH⟩ hr' => ?_
  · rw [hb u1 u2 hl1]
    refine wpAny_bind (wpAny_newTuple (wpAny_pure ?_) hl2)
    have new : ObjOk P w (upd H s.heap.objs.size (.tup rest)) (s.heap.push ({ cls := .type "tuple", data := .seq u2.toArray } : Obj)) s.heap.objs.size (.tup rest) := ⟨hz, u2, r2, ⟨_, Heap.get?_push_size _ rfl, rfl, _, rfl⟩⟩
    have un := StX.un_laid (fs := frs outer) (s := s) (o := ({ cls := .type "tuple", data := .seq u2.toArray } : Obj)) (u := .tup rest) hn
    have z := h _ _ (ws ++ [V.ref s.heap.objs.size]) (u1 ++ [Value.ref s.heap.objs.size]) (StX.env0_laid e0 new) un rfl (fun e s' => StX.cxUp outer s H _ _ E e s' un (fun b o q => Heap.get?_push_of_some _ q) rfl) (r1.append (.cons rfl .nil))
      (by rw [List.length_append, List.length_append, hl] <;> rfl) ⟨_, hn, rfl, rfl⟩
    rw [List.zip_append hl1.symm] at z
    exact z
  · subst ex eH
    exact hbody _ A outer s2 _ _ Q E hG hr' (hq p hp)
theorem links_end {cx : Cx} {fo : List Addr} {H : Hp} {Q : VK} {E : XK} {P : D → Prop} {EK : Er → Prop} {Hi : Hp} (hq : ∀ d v H', P d → Same H H' → Rep K (sub H' fo) v d → Q v H') (he : ∀ er cls dd H', EK er → Same H H' → RepEr K fo H' cls dd er → E cls dd H') :
    LinkS K (fun cls dd _ H => E cls dd H) ⟨fo, H, Hi⟩ (endK P EK) { nx := fun _ H' => Q .non H', rt := Q } :=
  ⟨fun σ H' own δ E' q => hq .none .non H' q E'.same .non, fun v σ H' own δ d E' r' q => hq d v H' q E'.same r', fun _ _ _ _ _ q => q.elim, fun _ _ _ _ _ q => q.elim, fun er cls dd σ H' own δ E' q r' => he er cls dd H' q E'.same (r'.less fun a h => List.mem_append_left _ h)⟩
abbrev Wof (E : XK) : WX := fun cls dd _ H => E cls dd H
variable {x qual pv : Str} {st : Stmt} {f : Addr} {fd : FuncData} {N ps : List Str} {k : Nat} {m : SM}
theorem fnD_of (F : Fun K x qual st f fd) (S : FnScope N ps (defScope st)) (hb : Binds K fd ps [])
    (hbody : ∀ (cdv : Value) (A : Around) (outer : List Env) (s : Shared) (H : Hp) (E : XK), GdOk A base → Room k (A.deeper (envOfC qual (defScope st) s.heap.objs.size f cdv)) →
      DSs (cxOf (L2.CX P w) P w K mg base N qual (defScope st) f cdv A outer s H E) (Wof E) (defBody st) m) : FnD P w K mg base (k + 1) f (mFun ps.length N.length m) := by
  refine fnP_of F S (sb := spD K (mFun ps.length N.length m)) (fun s us vs H Q E hK r h => ?_) fun cdv A outer s H vs Q E hG hr h => ?_
  · obtain ⟨fo, ds, PQ, EK, ht, tb, rs, ⟨hl, hm⟩, q⟩ := id h
    have e : us.length = ps.length := by rw [← r.length, rs.length]; exact hl
    have b := hb s us hK (by rw [List.append_nil]; exact e)
    rw [List.append_nil] at b
    exact ⟨vs, us, r, by rw [rs.length]; exact hl, b, h⟩
  · obtain ⟨fo, ds, PQ, EK, ht, tb, rs, ⟨hl, hm⟩, hq, he⟩ := h
    exact ⟨_, hbody cdv A outer s H E hG hr, ⟨fo, H, sub H fo⟩, [], _, _, env_start ht tb rs, hm, links_end (cx := cxOf (L2.CX P w) P w K mg base N qual (defScope st) f cdv A outer s H E) hq he⟩
/-! methods with a self that may be written -/
theorem self_at {F : Fm} {own : List Addr} {σ : L2.St} {δ : List DV} {H H' : Hp} {x : Addr} {d : D} (E : EnvD K F own σ δ H') (hx : F.H0 = sub H [x]) (ht : ∀ l, l ∈ F.ls0 → ∃ o, H l = some o ∧ Plain o) (h : δ[0]? = some (.s d)) : ∃ C dx n fs ds, d = .obj n ds ∧ PySem.W.nsIn K mainGlobals n = some (some (.ref C)) ∧ H' x = some (.ins C dx fs) ∧ RepFs K (sub H' (F.ls0 ++ own)) fs ds := by
  obtain ⟨s0, e1, a, C, dx, n, fs, ds, rfl, ha, ed, hn, hH, rf⟩ := E.slot 0 _ h
  have h0 := E.lent 0 d a h e1
  rw [hx] at h0
  have : a = x := by
    by_cases z : a = x
    · exact z
    · rw [sub_out (by simpa using z)] at h0
      obtain ⟨o, e, nn⟩ := ht a ha
      rw [h0] at e; cases e
  subst this
  exact ⟨C, dx, n, fs, ds, ed, hn, hH, rf⟩
theorem links_endM {fo : List Addr} {x : Addr} {H : Hp} {Q : VK} {E : XK} {P : D → D → Prop} {EK : D → Er → Prop} {Hi : Hp} (ht : ∀ l, l ∈ fo → ∃ o, H l = some o ∧ Plain o)
    (hq : ∀ n' dfs' d v H' C' dx' fs', P (.obj n' dfs') d → PySem.W.nsIn K mainGlobals n' = some (some (.ref C')) → Same (sub H [x]) H' → H' x = some (.ins C' dx' fs') → RepFs K (sub H' fo) fs' dfs' → Rep K (sub H' fo) v d → Q v H')
    (he : ∀ n' dfs' er cls dd H' C' dx' fs', EK (.obj n' dfs') er → PySem.W.nsIn K mainGlobals n' = some (some (.ref C')) → Same (sub H [x]) H' → H' x = some (.ins C' dx' fs') → RepFs K (sub H' fo) fs' dfs' → RepEr K fo H' cls dd er → E cls dd H') :
    LinkS K (Wof E) ⟨fo, sub H [x], Hi⟩ (endM P EK) { nx := fun _ H' => Q .non H', rt := Q } := by
  have le : ∀ {H' : Hp} {own : List Addr}, Grow (sub H' (fo ++ own)) (sub H' fo) := sub_less fun a h => List.mem_append_left _ h
  refine ⟨fun σ H' own δ E' ⟨d, hd, q⟩ => ?_, fun v σ H' own δ r E' r' ⟨d, hd, q⟩ => ?_, fun _ _ _ _ _ q => q.elim, fun _ _ _ _ _ q => q.elim, fun er cls dd σ H' own δ E' ⟨d, hd, q⟩ r' => ?_⟩
  · obtain ⟨C, dx, n, fs, ds, rfl, hn, hx, rf⟩ := self_at E' rfl ht hd
    exact hq n ds .none .non H' C dx fs q hn E'.same hx (rf.mono le) .non
  · obtain ⟨C, dx, n, fs, ds, rfl, hn, hx, rf⟩ := self_at E' rfl ht hd
    exact hq n ds r v H' C dx fs q hn E'.same hx (rf.mono le) r'
  · obtain ⟨C, dx, n, fs, ds, rfl, hn, hx, rf⟩ := self_at E' rfl ht hd
    exact he n ds er cls dd H' C dx fs q hn E'.same hx (rf.mono le) (r'.less fun a h => List.mem_append_left _ h)
theorem fnM_star {p0 : Str} (F : Fun K x qual st f fd) (S : FnScope N ([p0] ++ [pv]) (defScope st)) (hb : ∀ us rest : List Value, us.length = [p0].length → bindArgs fd ⟨us ++ rest, []⟩ = (newTuple rest >>= fun t => pure ([p0].zip us ++ [(pv, t)]))) (hN : N ≠ [])
    (hbody : ∀ (cdv : Value) (A : Around) (outer : List Env) (s : Shared) (H : Hp) (E : XK), GdOk A base → Room k (A.deeper (envOfC qual (defScope st) s.heap.objs.size f cdv)) →
      DSs (cxOf (L2.CX P w) P w K mg base N qual (defScope st) f cdv A outer s H E) (Wof E) (defBody st) m) : FnM P w K mg base (k + 1) f (mFunMS N.length m) := by
  refine fnP_star F S (sb := spM K (mFunM 2 N.length m)) hb (fun vs H Q E h => ?_) fun cdv A outer s H vs Q E hG hr h => ?_
  · obtain ⟨fo, x, C, dx, n, ws, fs, dfs, ds, PQ, EK, rfl, hx, ht, tb, hn, ha, rf, rs, ⟨h1, hm⟩, hq, he⟩ := h
    have lv := rs.length
    refine ⟨[.ref x], ws, rfl, rfl, by omega, fun p hp => ?_⟩
    have g := (sub_same (ls := fo) (same_upd (o := .tup ws) hp).ob)
    have np : p ∉ fo := fun z => by
      obtain ⟨o, e, nn⟩ := ht p z
      rw [hp] at e; cases e
    have nx : x ≠ p := fun z => np (by rw [← z]; exact hx)
    have sx : Same (sub H [x]) (sub (upd H p (.tup ws)) [x]) := Same.of fun b u q => by
      by_cases hb : b ∈ [x]
      · rw [sub_in hb] at q; cases q
      · rw [sub_out hb] at q ⊢
        rw [upd_ne (ne_of_none q hp)]; exact q
    refine ⟨fo, x, C, dx, n, [.ref p], fs, dfs, [.tup ds], PQ, EK, rfl, hx, fun l hl => ?_, (same_upd hp).tb tb, hn, by rw [upd_ne nx]; exact ha, rf.mono g, .cons (.tup (.of (by rw [sub_out np]; exact upd_same)) (by omega) (rs.mono g)) .nil, ⟨rfl, hm⟩, fun n' dfs' d v H' C' dx' fs' pd hn' s => hq n' dfs' d v H' C' dx' fs' pd hn' (sx.trans s), fun n' dfs' er cls dd H' C' dx' fs' pd hn' s => he n' dfs' er cls dd H' C' dx' fs' pd hn' (sx.trans s)⟩
    obtain ⟨o, e, nn⟩ := ht l hl
    exact ⟨o, by rw [upd_ne (ne_of_none e hp)]; exact e, nn⟩
  · obtain ⟨fo, x, C, dx, n, ws, fs, dfs, ds, PQ, EK, rfl, hx, ht, tb, hn, ha, rf, rs, ⟨hl, hm⟩, hq, he⟩ := h
    exact ⟨_, hbody cdv A outer s H E hG hr, ⟨fo, sub H [x], sub H fo⟩, [], _, _, env_startM hN hx ht tb hn ha rf rs, hm, links_endM ht hq he⟩
end
/-! ### calls -/
section
variable {X : Cx} {W : WX} {a b c e o : Expr} {es : List Expr} {ba : Bool} {la : LM} {p pos : Pos} {x : Str} {k : Nat} {f : Addr} {m : FM}
theorem runP {pins : List (Addr × Obj)} {σ : L2.St} {H : Hp} {s : Shared} {Q : VK} {us : List Value} {vs : List V} {sp : Sp} {E : XK} (F : FnP X.prog X.w X.K X.mg X.base k f sp) (hG : GdOk X.A X.base) (hr : Room k X.A) (tk : Takes X W)
    (hE : ∀ cls dd H', E cls dd H' → W cls dd σ H') (I : Inv X pins σ H s) (r : Vals vs us) (h : sp vs H Q E) : wpAny (model X.prog X.w) X.A (call (.ref f) us) (EP X pins σ Q) X.xe s := by
  refine wpAny_call (codeAny_mono (F X.A X.stack s H us vs Q E hG hr I.env0 r h) fun r s' hq => ?_)
  cases r with
  | error e => exact tk e s' (XE.of_call I hE hq)
  | ok fl =>
    cases fl with
    | ret u => exact I.after hq
    | next => exact False.elim hq
    | brk => exact False.elim hq
    | cont => exact False.elim hq
def mCall (m : FM) (la : LM) : TM := fun δ Q E => la δ (fun ds => m ds Q E) E
theorem At.tabs {K : PySem.W.Frag} {W : WX} {σ : L2.St} {H : Hp} {F : Fm} {own : List Addr} {δ : List DV} {EK : Er → Prop} (A : At K W σ H F own δ EK) : LamX.Tabs TabsC.T H := A.env.tabs
theorem de_call (F : FnD X.prog X.w X.K X.mg X.base k f m) (hG : GdOk X.A X.base) (hr : Room k X.A) (tk : Takes X W) (hg : Gl X x) (hm : X.mg x = some (.ref f)) (hk : PySem.W.keepIn X.K (.ref f) = true)
    (ha : DA X W (e :: es) false la) (hdb : (x == ("__debug__" : Str)) = false := by decide) (he : starEach (e :: es) X.env = (false, eval e X.env) :: starEach es X.env := by rfl)
    (hpl : (backTo pos (starEach es X.env)).any (·.1) = false := by rfl) : DE X W (.Call (.Name x p) (e :: es) [] pos) false (mCall m la) := by
  refine ⟨fun pins s σ H Q I ⟨FF, own, δ, P, EK, A, mm, q⟩ => ?_⟩
  refine wpAny_Call_Name_kw (ld_glob I hg hm ?_ hdb)
  refine PySem.W.callWith_K (h₀ := X.base) I.ok.mod.kin hk (thn (ha.run pos pins s σ H (fun vs H1 => ∃ ds, m ds P EK ∧ Same H H1 ∧ RVs X.K FF.ls0 (FF.ls0 ++ own) H1 false vs ds) I
    ⟨FF, own, δ, _, EK, A, mm, fun ds vs H1 p1 s1 r1 => ⟨ds, p1, s1, r1⟩⟩) fun us s1 ⟨vs, H1, I1, rv, ds, hm1, s01, rr⟩ => ⟨I1.kIn, ?_⟩) he hpl
  have A1 := A.on s01
  exact runP F hG hr tk (E := fun cls dd H' => W cls dd σ H') (fun _ _ _ h => h) I1 rv ⟨FF.ls0 ++ own, ds, P, EK, A1.env.trk, A1.tabs, rr.clean, hm1, fun d v H' pd s2 r2 => q d v H' pd (s01.trans s2) (.cl r2), fun er cls dd H' ke s2 r2 => A1.pass er cls dd H' ke s2 r2⟩
def mCall0 (m : FM) : TM := fun _ Q E => m [] Q E
end
end DL
set_option Elab.async false
set_option linter.all false
set_option maxRecDepth 100000
set_option maxHeartbeats 4000000
/-! DL6: operators and built-ins on data. -/
namespace DL
open PySem PySem.Spec PyProof.Rows L2
variable [TabsC]
section
variable {X : Cx} {W : WX}
/-! ### arithmetic -/
def fAdd (x y : D) (Q : D → Prop) : Prop := match x, y with
  | .int i, .int j => Q (.int (i + j))
  | .str a, .str b => a.length + b.length ≤ sizeLine ∧ Q (.str (a ++ b))
  | .tup xs, .tup ys => xs.length + ys.length ≤ sizeLine ∧ Q (.tup (xs ++ ys))
  | .list xs, .list ys => xs.length + ys.length ≤ sizeLine ∧ Q (.list (xs ++ ys))
  | _, _ => False
theorem op_addD : OpR X (binaryOp .Add) (fun x y H Q => rI0 (fun i j => .int (i + j)) x y H Q ∨ ((∃ i j, x = V.str i ∧ y = V.str j ∧ i.length + j.length ≤ sizeLine ∧ Q (V.str (i ++ j)) H) ∨ (rCatA X.K x y H Q ∨ rCat x y H Q))) := op_add.or (op_add_str.or (op_catA.or op_cat))
theorem nofr {H : Hp} {ls : List Addr} {p : Addr} (ht : ∀ l, l ∈ ls → ∃ o, H l = some o ∧ Plain o) (hp : H p = none) : p ∉ ls := fun z => by
  obtain ⟨o, e, nn⟩ := ht p z
  rw [hp] at e; cases e
theorem new_tup {K : PySem.W.Frag} {H : Hp} {ls : List Addr} {p : Addr} {xs : List V} {ds : List D} (ht : ∀ l, l ∈ ls → ∃ o, H l = some o ∧ Plain o) (hp : H p = none) (hz : xs.length ≤ sizeLine) (r : Reps K (sub H ls) xs ds) : Rep K (sub (upd H p (.tup xs)) ls) (.ref p) (.tup ds) :=
  .tup (.of (by rw [sub_out (nofr ht hp)]; exact upd_same)) hz (r.mono (sub_same (same_upd hp).ob))
theorem new_list {K : PySem.W.Frag} {H : Hp} {ls : List Addr} {p : Addr} {xs : List V} {ds : List D} (ht : ∀ l, l ∈ ls → ∃ o, H l = some o ∧ Plain o) (hp : H p = none) (hz : xs.length ≤ sizeLine) (r : Reps K (sub H ls) xs ds) : Rep K (sub (upd H p (.lst xs)) ls) (.ref p) (.list ds) :=
  .list (by rw [sub_out (nofr ht hp)]; exact upd_same) hz (r.mono (sub_same (same_upd hp).ob))
theorem link_add : LinkOp X.K (fun x y H Q => rI0 (fun i j => .int (i + j)) x y H Q ∨ ((∃ i j, x = V.str i ∧ y = V.str j ∧ i.length + j.length ≤ sizeLine ∧ Q (V.str (i ++ j)) H) ∨ (rCatA X.K x y H Q ∨ rCat x y H Q))) fAdd := by
  intro fo ls H x y dx dy P Q ht rx ry h q
  unfold fAdd at h
  split at h
  · exact .inl ⟨_, _, rx.isInt, ry.isInt, q _ _ H h (Same.refl H) (.int _)⟩
  · exact .inr (.inl ⟨_, _, rx.isStr, ry.isStr, h.1, q _ _ H h.2 (Same.refl H) (.str _)⟩)
  · obtain ⟨hz, h⟩ := h
    obtain ⟨a, us, rfl, ha, hl, rs⟩ := rx.tup
    obtain ⟨b, ws, rfl, hb, hl2, rs2⟩ := ry.tup
    have hz' : us.length + ws.length ≤ sizeLine := by rw [rs.length, rs2.length]; exact hz
    refine .inr (.inr (.inl ⟨a, b, us, ws, rfl, rfl, ha, hb, hz', fun e => ?_, fun _ e => ?_, fun _ _ p hp => ?_⟩))
    · subst e
      cases rs
      cases ry with
      | cl ry => exact q _ _ H h (Same.refl H) (by simpa using ry)
    · subst e
      cases rs2
      cases rx with
      | cl rx => exact q _ _ H h (Same.refl H) (by simpa using rx)
    · exact q _ _ _ h (same_upd hp) (new_tup ht hp (by rw [List.length_append]; exact hz') (rs.append rs2))
  · obtain ⟨hz, h⟩ := h
    obtain ⟨a, us, rfl, ha, hl, rs⟩ := rx.list
    obtain ⟨b, ws, rfl, hb, hl2, rs2⟩ := ry.list
    have hz' : us.length + ws.length ≤ sizeLine := by rw [rs.length, rs2.length]; exact hz
    exact .inr (.inr (.inr ⟨a, b, us, ws, rfl, rfl, ha, hb, hz', fun p hp => q _ _ _ h (same_upd hp) (new_list ht hp (by rw [List.length_append]; exact hz') (rs.append rs2))⟩))
  · exact h.elim
/-- two ints -/
def fI (C : Int → Int → Prop) (g : Int → Int → Int) (x y : D) (Q : D → Prop) : Prop := match x, y with
  | .int i, .int j => C i j ∧ Q (.int (g i j))
  | _, _ => False
theorem link_I {C : Int → Int → Prop} {g : Int → Int → Int} : LinkOp X.K (rI C fun i j => .int (g i j)) (fI C g) := by
  intro fo ls H x y dx dy P Q ht rx ry h q
  unfold fI at h
  split at h
  · exact ⟨_, _, rx.isInt, ry.isInt, h.1, q _ _ H h.2 (Same.refl H) (.int _)⟩
  · exact h.elim
def fSub (x y : D) (Q : D → Prop) : Prop := match x, y with
  | .int i, .int j => Q (.int (i - j))
  | _, _ => False
theorem link_sub : LinkOp X.K (rI0 fun i j => .int (i - j)) fSub := by
  intro fo ls H x y dx dy P Q ht rx ry h q
  unfold fSub at h
  split at h
  · exact ⟨_, _, rx.isInt, ry.isInt, q _ _ H h (Same.refl H) (.int _)⟩
  · exact h.elim
theorem op_mulD : OpR X (binaryOp .Mult) (rI IntMulOk fun i j => .int (i * j)) := opI fun _ _ _ _ _ _ _ hc q => mul_int q hc
def CPowD (i j : Int) : Prop := 0 ≤ j ∧ (Builtin.Int.intBits i : Int) * j ≤ 2 ^ 27
theorem op_powD : OpR X (binaryOp .Pow) (rI CPowD fun i j => .int (i ^ j.toNat)) := opI fun _ _ _ _ _ _ _ hc q => pow_int hc.1 hc.2 q
abbrev fMul := fI IntMulOk fun i j => i * j
abbrev fDiv := fI CDivW fun i j => i / j
abbrev fMod := fI (fun _ j => 0 < j) fun i j => i % j
abbrev fPow := fI CPowD fun i j => i ^ j.toNat
variable {a b e : Expr} {es : List Expr} {ba bb : Bool} {ma mb : TM} {la : LM} {pos p : Pos} {x : Str}
theorem de_add (ha : DE X W a ba ma) (hb : DE X W b bb mb) : DE X W (.BinOp a .Add b pos) false (mBin fAdd ma mb) := de_op op_addD link_add ha hb
theorem de_sub (ha : DE X W a ba ma) (hb : DE X W b bb mb) : DE X W (.BinOp a .Sub b pos) false (mBin fSub ma mb) := de_op op_sub link_sub ha hb
theorem de_mul (ha : DE X W a ba ma) (hb : DE X W b bb mb) : DE X W (.BinOp a .Mult b pos) false (mBin fMul ma mb) := de_op op_mulD link_I ha hb
theorem de_div (ha : DE X W a ba ma) (hb : DE X W b bb mb) : DE X W (.BinOp a .FloorDiv b pos) false (mBin fDiv ma mb) := de_op op_fdivW link_I ha hb
theorem de_mod (ha : DE X W a ba ma) (hb : DE X W b bb mb) : DE X W (.BinOp a .Mod b pos) false (mBin fMod ma mb) := de_op op_mod link_I ha hb
theorem de_pow (ha : DE X W a ba ma) (hb : DE X W b bb mb) : DE X W (.BinOp a .Pow b pos) false (mBin fPow ma mb) := de_op op_powD link_I ha hb
def mNeg (ma : TM) : TM := fun δ Q E => ma δ (fun d => ∃ i, d = .int i ∧ Q (.int (-i))) E
theorem de_neg (ha : DE X W a ba ma) : DE X W (.UnaryOp .USub a pos) false (mNeg ma) :=
  PE.imp (pe_un un_neg ha) fun σ H Q ⟨F, own, δ, P, EK, A, m, q⟩ => ⟨F, own, δ, _, EK, A, m, fun d v H' ⟨i, ed, p⟩ s r => by
    subst ed
    exact ⟨i, r.isInt, q _ _ H' p s (.cl (.int _))⟩⟩
/-! ### comparisons -/
def fCmp (g : Int → Int → Bool) (h : List Nat → List Nat → Bool) (x y : D) (Q : Bool → Prop) : Prop := match x, y with
  | .int i, .int j => Q (g i j)
  | .str a, .str b => Q (h a.cps.toList b.cps.toList)
  | _, _ => False
theorem link_cmp {g : Int → Int → Bool} {h : List Nat → List Nat → Bool} : LinkCmp X.K (fun x y H Q => rI0 (fun i j => .bl (g i j)) x y H Q ∨ ∃ i j, x = V.str i ∧ y = V.str j ∧ Q (V.bl (h i.cps.toList j.cps.toList)) H) (fCmp g h) := by
  intro fo ls H x y dx dy P Q rx ry hh q
  unfold fCmp at hh
  split at hh
  · exact .inl ⟨_, _, rx.isInt, ry.isInt, q _ hh⟩
  · exact .inr ⟨_, _, rx.isStr, ry.isStr, q _ hh⟩
  · exact hh.elim
abbrev fLt := fCmp (fun i j => decide (i < j)) fun i j => decide (i < j)
abbrev fLe := fCmp (fun i j => decide (i ≤ j)) fun i j => !decide (j < i)
abbrev fGt := fCmp (fun i j => decide (j < i)) fun i j => decide (j < i)
abbrev fGe := fCmp (fun i j => decide (j ≤ i)) fun i j => !decide (i < j)
theorem op_ltD : OpR X (compareOp .Lt) (fun x y H Q => rI0 (fun i j => .bl (decide (i < j))) x y H Q ∨ ∃ i j, x = V.str i ∧ y = V.str j ∧ Q (V.bl (decide (i.cps.toList < j.cps.toList))) H) := op_lt.or op_lt_str
theorem op_gtD : OpR X (compareOp .Gt) (fun x y H Q => rI0 (fun i j => .bl (decide (j < i))) x y H Q ∨ ∃ i j, x = V.str i ∧ y = V.str j ∧ Q (V.bl (decide (j.cps.toList < i.cps.toList))) H) := op_gt.or op_gt_str
theorem op_geD : OpR X (compareOp .GtE) (fun x y H Q => rI0 (fun i j => .bl (decide (j ≤ i))) x y H Q ∨ ∃ i j, x = V.str i ∧ y = V.str j ∧ Q (V.bl (!decide (i.cps.toList < j.cps.toList))) H) := op_ge.or op_ge_str
theorem link_lt : LinkCmp X.K (fun x y H Q => rI0 (fun i j => .bl (decide (i < j))) x y H Q ∨ ∃ i j, x = V.str i ∧ y = V.str j ∧ Q (V.bl (decide (i.cps.toList < j.cps.toList))) H) fLt := link_cmp
theorem link_gt : LinkCmp X.K (fun x y H Q => rI0 (fun i j => .bl (decide (j < i))) x y H Q ∨ ∃ i j, x = V.str i ∧ y = V.str j ∧ Q (V.bl (decide (j.cps.toList < i.cps.toList))) H) fGt := link_cmp (g := fun i j => decide (j < i)) (h := fun i j => decide (j < i))
theorem link_ge : LinkCmp X.K (fun x y H Q => rI0 (fun i j => .bl (decide (j ≤ i))) x y H Q ∨ ∃ i j, x = V.str i ∧ y = V.str j ∧ Q (V.bl (!decide (i.cps.toList < j.cps.toList))) H) fGe := link_cmp (g := fun i j => decide (j ≤ i)) (h := fun i j => !decide (i < j))
/-- is, is not of bools -/
def fIsB (x y : D) (Q : Bool → Prop) : Prop := match x, y with
  | .bool i, .bool j => Q (decide (i = j))
  | _, _ => False
def fIsNotB (x y : D) (Q : Bool → Prop) : Prop := match x, y with
  | .bool i, .bool j => Q (!decide (i = j))
  | _, _ => False
/-! ### data that can be compared and shown -/
def keyPy : Key → PyData
  | .inl i => .int i
  | .inr x => .str x
mutual
def D.py : D → PyData
  | .none => .none
  | .bool b => .bool b
  | .int i => .int i
  | .str s => .str s
  | .list xs => .list (D.pys xs)
  | .tup xs => .tuple (D.pys xs)
  | .dict kvs => .dict (D.pyKs kvs)
  | .obj _ _ => .none
  | .dice => .none
  | .script _ => .none
  | .tdict _ => .none
  | .opq _ _ => .none
  | .ty _ => .none
  | .fn _ => .none
  | .exc _ _ _ _ _ => .none
def D.pys : List D → List PyData
  | [] => []
  | x :: xs => D.py x :: D.pys xs
def D.pyKs : List (Key × D) → List (PyData × PyData)
  | [] => []
  | (k, x) :: xs => (keyPy k, D.py x) :: D.pyKs xs
end
mutual
def D.isPy : D → Bool
  | .none => true
  | .bool _ => true
  | .int _ => true
  | .str _ => true
  | .list xs => D.arePy xs
  | .tup xs => D.arePy xs
  | .dict kvs => D.areKs kvs
  | .obj _ _ => false
  | .dice => false
  | .script _ => false
  | .tdict _ => false
  | .opq _ _ => false
  | .ty _ => false
  | .fn _ => false
  | .exc _ _ _ _ _ => false
def D.arePy : List D → Bool
  | [] => true
  | x :: xs => D.isPy x && D.arePy xs
def D.areKs : List (Key × D) → Bool
  | [] => true
  | (_, x) :: xs => D.isPy x && D.areKs xs
end
mutual
theorem Rep.dp {K : PySem.W.Frag} {H : Hp} : ∀ {v : V} {d : D}, Rep K H v d → d.isPy = true → d.py.canLay0 = true → Dp K H v d.py
  | _, _, .non, _, _ => .non
  | _, _, .bool b, _, _ => .bl b
  | _, _, .int i, _, _ => .int i
  | _, _, .str x, _, _ => .str x
  | _, _, .list h _ r, p, q => .lst (.of h) (Reps.dp r (by simpa [D.isPy] using p) (by simpa [D.py, PyData.canLay0] using q))
  | _, _, .tup h _ r, p, q => .tup h (Reps.dp r (by simpa [D.isPy] using p) (by simpa [D.py, PyData.canLay0] using q))
  | _, _, .dict _ _ _, _, q => by simp [D.py, PyData.canLay0] at q
  | _, _, .obj _ _ _, p, _ => by simp [D.isPy] at p
  | _, _, .dice _, p, _ => by simp [D.isPy] at p
  | _, _, .script _ _, p, _ => by simp [D.isPy] at p
  | _, _, .tdict _ _ _ _, p, _ => by simp [D.isPy] at p
  | _, _, .opq _, p, _ => by simp [D.isPy] at p
  | _, _, .ty _, p, _ => by simp [D.isPy] at p
  | _, _, .fn _, p, _ => by simp [D.isPy] at p
  | _, _, .exc _ _ _, p, _ => by simp [D.isPy] at p
theorem Reps.dp {K : PySem.W.Frag} {H : Hp} : ∀ {vs : List V} {ds : List D}, Reps K H vs ds → D.arePy ds = true → PyData.canLayAll0 (D.pys ds) = true → DpAll K H vs (D.pys ds)
  | _, _, .nil, _, _ => .nil
  | _, _, .cons r t, p, q => by
    have p' : _ = true ∧ _ = true := (by simpa [D.arePy] using p : D.isPy _ = true ∧ D.arePy _ = true)
    have q' : _ = true ∧ _ = true := (by simpa [D.pys, PyData.canLayAll0] using q : PyData.canLay0 (D.py _) = true ∧ PyData.canLayAll0 (D.pys _) = true)
    exact .cons (Rep.dp r p'.1 q'.1) (Reps.dp t p'.2 q'.2)
end
/-! what stands in the heap, read as data -/
section
variable {X : Cx} {pins : List (Addr × Obj)} {σ : L2.St} {H : Hp} {s : Shared}
theorem no_mods {a : Addr} {o : Obj} {xs : Array Value} {n : Nat} (I : Inv X pins σ H s) (hM : ∃ mm, X.base.Ns sysModules mm) (h : s.heap.get? a = some o) (hd : o.data = .seq xs n) : a ≠ sysModules := fun e => by
  obtain ⟨mm, o', es, ep, e', d, _⟩ := hM
  have k := I.bk _ _ e'
  rw [e, k] at h
  cases h
  rw [d] at hd
  cases hd
theorem key_reads {h : Heap} {k : Key} {v : Value} (e : keyIs k v = true) : Reads h v (keyPy k) [] := by
  rcases keyIs_shape e with ⟨i, t, rfl, rfl⟩ | ⟨x, t, rfl, rfl⟩
  · exact .int i t
  · exact .str x t
theorem keys_reads {h : Heap} : ∀ {es : List DictEntry} {kvs : List (Key × Value)} {ds : List (Key × D)}, Pairs (mixKind X.prog X.w) es kvs → kvs.map (·.1) = ds.map (·.1) → ReadsAll h (es.map (·.key)) ((D.pyKs ds).map (·.1)) []
  | _, _, [], .nil, _ => .nil
  | _, _, _ :: _, .nil, e => by simp at e
  | _, _, [], .cons _ _ _, e => by simp at e
  | _, _, (k, d) :: ds, .cons (kv := kv) h1 _ r, e => by
    have e1 : kv.1 = k := by simpa using (List.cons.inj e).1
    have e2 := (List.cons.inj e).2
    have h1' : keyIs kv.1 _ = true := h1
    rw [e1] at h1'
    exact .cons (as := []) (bs := []) (key_reads h1') (keys_reads r e2)
theorem KV.keys : ∀ {kvs : List (Key × V)} {vs : List (Key × Value)}, KV kvs vs → kvs.map (·.1) = vs.map (·.1)
  | _, _, .nil => rfl
  | _, _, .cons h r => by
    have e := KV.keys r
    simp only [List.map_cons, h.1]
    rw [e]
theorem RepKs.keys0 {K : PySem.W.Frag} {H : Hp} : ∀ {vs : List (Key × V)} {ds : List (Key × D)}, RepKs K H vs ds → vs.map (·.1) = ds.map (·.1)
  | _, _, .nil => rfl
  | _, _, .cons _ r => by simp only [List.map_cons, RepKs.keys0 r]
mutual
theorem Rep.reads (I : Inv X pins σ H s) (hM : ∃ mm, X.base.Ns sysModules mm) : ∀ {v : V} {d : D} {u : Value}, Rep X.K H v d → RelV v u → d.isPy = true → ∃ as, Reads s.heap u d.py as ∧ sysModules ∉ as
  | _, _, _, .non, r, _ => by cases r; exact ⟨_, .none, by simp⟩
  | _, _, _, .bool b, r, _ => by cases r; exact ⟨_, .bool b, by simp⟩
  | _, _, _, .int i, r, _ => by obtain ⟨t, rfl⟩ := r; exact ⟨_, .int i t, by simp⟩
  | _, _, _, .str x, r, _ => by obtain ⟨t, rfl⟩ := r; exact ⟨_, .str x t, by simp⟩
  | _, _, _, .list h _ rr, r, p => by
    cases r
    obtain ⟨its, rv, pl, _⟩ := I.list (.of h)
    obtain ⟨o, ho, hc, n, hd⟩ := pl.isList
    obtain ⟨as, r1, n1⟩ := Reps.reads I hM rr rv (by simpa [D.isPy] using p)
    exact ⟨_, .list ho hc hd (by simpa using r1), fun z => (List.mem_cons.mp z).elim (fun z => no_mods I hM ho hd z.symm) n1⟩
  | _, _, _, .tup h _ rr, r, p => by
    cases r
    obtain ⟨its, rv, pl, _⟩ := I.tuple h
    obtain ⟨o, ho, hc, n, hd⟩ := pl
    obtain ⟨as, r1, n1⟩ := Reps.reads I hM rr rv (by simpa [D.isPy] using p)
    exact ⟨_, .tuple ho hc hd (by simpa using r1), n1⟩
  | _, _, _, .dict h _ rr, r, p => by
    cases r
    obtain ⟨_, hs0, vs, kv, o, es, ep, ho, hx, hd, hk, hp, _⟩ := dk_rd I.hok (.inr ⟨_, h⟩)
    obtain ⟨bs, r2, n2⟩ := RepKs.reads I hM rr kv hp (by simpa [D.isPy] using p)
    have r1 := keys_reads (h := s.heap) hp (by rw [← KV.keys kv]; exact rr.keys0)
    refine ⟨_, .dict ho hx.1 hd r1 r2, fun z => ?_⟩
    rcases List.mem_cons.mp z with z | z
    · rw [z] at hs0
      simp at hs0
    · exact n2 (by simpa using z)
  | _, _, _, .obj _ _ _, _, p => by simp [D.isPy] at p
  | _, _, _, .dice _, _, p => by simp [D.isPy] at p
  | _, _, _, .script _ _, _, p => by simp [D.isPy] at p
  | _, _, _, .tdict _ _ _ _, _, p => by simp [D.isPy] at p
  | _, _, _, .opq _, _, p => by simp [D.isPy] at p
  | _, _, _, .ty _, _, p => by simp [D.isPy] at p
  | _, _, _, .fn _, _, p => by simp [D.isPy] at p
  | _, _, _, .exc _ _ _, _, p => by simp [D.isPy] at p
theorem Reps.reads (I : Inv X pins σ H s) (hM : ∃ mm, X.base.Ns sysModules mm) : ∀ {vs : List V} {ds : List D} {us : List Value}, Reps X.K H vs ds → Vals vs us → D.arePy ds = true → ∃ as, ReadsAll s.heap us (D.pys ds) as ∧ sysModules ∉ as
  | _, _, _, .nil, r, _ => by cases r; exact ⟨_, .nil, by simp⟩
  | _, _, _, .cons a t, r, p => by
    have p' : _ = true ∧ _ = true := (by simpa [D.arePy] using p : D.isPy _ = true ∧ D.arePy _ = true)
    cases r with
    | cons r1 r2 =>
      obtain ⟨as, q1, n1⟩ := Rep.reads I hM a r1 p'.1
      obtain ⟨bs, q2, n2⟩ := Reps.reads I hM t r2 p'.2
      exact ⟨_, .cons q1 q2, fun z => (List.mem_append.mp z).elim n1 n2⟩
theorem RepKs.reads (I : Inv X pins σ H s) (hM : ∃ mm, X.base.Ns sysModules mm) : ∀ {vs : List (Key × V)} {ds : List (Key × D)} {us : List (Key × Value)} {es : List DictEntry}, RepKs X.K H vs ds → KV vs us → Pairs (mixKind X.prog X.w) es us → D.areKs ds = true → ∃ as, ReadsAll s.heap (es.map (·.val)) ((D.pyKs ds).map (·.2)) as ∧ sysModules ∉ as
  | _, _, _, _, .nil, r, q, _ => by cases r; cases q; exact ⟨_, .nil, by simp⟩
  | _, _, _, _, .cons a t, r, q, p => by
    have p' : _ = true ∧ _ = true := (by simpa [D.areKs] using p : D.isPy _ = true ∧ D.areKs _ = true)
    cases r with
    | cons r1 r2 =>
      cases q with
      | cons k1 k2 k3 =>
        obtain ⟨as, q1, n1⟩ := Rep.reads I hM a r1.2 p'.1
        obtain ⟨bs, q2, n2⟩ := RepKs.reads I hM t r2 k3 p'.2
        rw [← k2] at q1
        exact ⟨_, .cons q1 q2, fun z => (List.mem_append.mp z).elim n1 n2⟩
end
end
def D.fine (d : D) : Bool := d.isPy && SeqAt.shaped d.py
def eqD (x y : D) : Bool := PyData.eqv x.py y.py
def fEq (x y : D) (Q : Bool → Prop) : Prop := x.fine = true ∧ y.fine = true ∧ Q (eqD x y)
def fNe (x y : D) (Q : Bool → Prop) : Prop := x.fine = true ∧ y.fine = true ∧ Q (!eqD x y)
theorem fine_and {d : D} (h : d.fine = true) : d.isPy = true ∧ SeqAt.shaped d.py = true := by simpa [D.fine] using h
theorem fine_lay {d : D} (h : d.fine = true) : d.py.canLay0 = true := by
  have := (fine_and h).2
  unfold SeqAt.shaped at this
  exact (Bool.and_eq_true_iff.mp this).1
theorem fine_nodic {d : D} (h : d.fine = true) : isDic d = false := by
  have := fine_lay h
  have hp := (fine_and h).1
  cases d with
  | dict _ => simp [D.py, PyData.canLay0] at this
  | tdict _ => simp [D.isPy] at hp
  | _ => rfl
theorem RV.dpf {K : PySem.W.Frag} {fo ls : List Addr} {H : Hp} {b : Bool} {v : V} {d : D} (r : RV K fo ls H b v d) (h : d.fine = true) : Dp K H v d.py := (r.rep (fine_nodic h)).dp (fine_and h).1 (fine_lay h)
theorem link_eq : LinkCmp X.K (rEqD X.K) fEq := by
  intro fo ls H x y dx dy P Q rx ry ⟨h1, h2, h⟩ q
  exact ⟨_, _, rx.dpf h1, ry.dpf h2, (fine_and h1).2, (fine_and h2).2, q _ h⟩
theorem link_ne : LinkCmp X.K (rNeD X.K) fNe := by
  intro fo ls H x y dx dy P Q rx ry ⟨h1, h2, h⟩ q
  exact ⟨_, _, rx.dpf h1, ry.dpf h2, (fine_and h1).2, (fine_and h2).2, q _ h⟩
/-- in: a sign in a text, an item in a list or a tuple -/
def inD (x : D) (ds : List D) : Bool := ds.any fun z => eqD z x
theorem pys_any {x : D} : ∀ ds : List D, ((D.pys ds).any fun z => PyData.eqv z x.py) = inD x ds
  | [] => by simp [D.pys, inD]
  | d :: ds => by
    have := pys_any (x := x) ds
    unfold inD at this ⊢
    simp only [D.pys, List.any_cons, this]
    rfl
/-! ### built-ins -/
def fLen (ds : List D) (Q : D → Prop) : Prop := match ds with
  | [.list xs] => Q (.int xs.length)
  | [.tup xs] => Q (.int xs.length)
  | [.script ns] => Q (.int ns.length)
  | [.str z] => z.length ≤ sizeLine ∧ Q (.int z.length)
  | _ => False
theorem link_len : LinkB X.K (fun xs H Q => ∃ x n, xs = [x] ∧ LenV X.K x H n ∧ Q (.int n) H) fLen := by
  intro fo ls H vs ds P Q ht r h q
  unfold fLen at h
  split at h
  · obtain ⟨v, rfl, rr⟩ := r.one
    obtain ⟨a, xs, rfl, h1, h2, h3⟩ := rr.list
    exact ⟨_, _, rfl, .inl ⟨xs, .of h1, h3.length.symm⟩, q _ _ H h (Same.refl H) (.int _)⟩
  · obtain ⟨v, rfl, rr⟩ := r.one
    obtain ⟨a, xs, rfl, h1, h2, h3⟩ := rr.tup
    exact ⟨_, _, rfl, .inr ⟨xs, h1, h3.length.symm⟩, q _ _ H h (Same.refl H) (.int _)⟩
  · obtain ⟨v, rfl, rr⟩ := r.one
    cases rr with
    | cl r =>
      cases r with
      | script h1 h2 => exact ⟨_, _, rfl, .inl ⟨_, sub_le.seq h1, by rw [List.length_map]⟩, q _ _ H h (Same.refl H) (.int _)⟩
  · obtain ⟨v, rfl, rr⟩ := r.one
    rw [rr.isStr]
    exact ⟨_, _, rfl, ⟨h.1, rfl⟩, q _ _ H h.2 (Same.refl H) (.int _)⟩
  · exact h.elim
def fAbs (ds : List D) (Q : D → Prop) : Prop := ∃ i : Int, ds = [.int i] ∧ Q (.int (if i < 0 then -i else i))
theorem link_abs : LinkB X.K (fun xs H Q => ∃ i, xs = [V.int i] ∧ Q (V.int (if i < 0 then -i else i)) H) fAbs := by
  intro fo ls H vs ds P Q ht r ⟨i, e, h⟩ q
  subst e
  obtain ⟨v, rfl, rr⟩ := r.one
  exact ⟨i, by rw [rr.isInt], q _ _ H h (Same.refl H) (.int _)⟩
def fMax2 (ds : List D) (Q : D → Prop) : Prop := ∃ i j : Int, ds = [.int i, .int j] ∧ Q (.int (if j > i then j else i))
theorem link_max2 : LinkB X.K (fun xs H Q => ∃ i j, xs = [V.int i, V.int j] ∧ Q (V.int (if j > i then j else i)) H) fMax2 := by
  intro fo ls H vs ds P Q ht r ⟨i, j, e, h⟩ q
  subst e
  obtain ⟨v, v', rfl, r1, r2⟩ := r.two
  exact ⟨i, j, by rw [r1.isInt, r2.isInt], q _ _ H h (Same.refl H) (.int _)⟩
def fMin2 (ds : List D) (Q : D → Prop) : Prop := ∃ i j : Int, ds = [.int i, .int j] ∧ Q (.int (if j < i then j else i))
theorem link_min2 : LinkB X.K (fun xs H Q => ∃ i j, xs = [V.int i, V.int j] ∧ Q (V.int (if j < i then j else i)) H) fMin2 := by
  intro fo ls H vs ds P Q ht r ⟨i, j, e, h⟩ q
  subst e
  obtain ⟨v, v', rfl, r1, r2⟩ := r.two
  exact ⟨i, j, by rw [r1.isInt, r2.isInt], q _ _ H h (Same.refl H) (.int _)⟩
def fInt (ds : List D) (Q : D → Prop) : Prop := match ds with
  | [.int i] => Q (.int i)
  | [.bool k] => Q (.int (if k then 1 else 0))
  | _ => False
theorem link_int : LinkB X.K (fun xs H Q => (∃ i, xs = [V.int i] ∧ Q (.int i) H) ∨ ∃ k, xs = [V.bl k] ∧ Q (V.int (if k then 1 else 0)) H) fInt := by
  intro fo ls H vs ds P Q ht r h q
  unfold fInt at h
  split at h
  · obtain ⟨v, rfl, rr⟩ := r.one
    exact .inl ⟨_, by rw [rr.isInt], q _ _ H h (Same.refl H) (.int _)⟩
  · obtain ⟨v, rfl, rr⟩ := r.one
    exact .inr ⟨_, by rw [rr.isBool], q _ _ H h (Same.refl H) (.int _)⟩
  · exact h.elim
def fStr (ds : List D) (Q : D → Prop) : Prop := ∃ i : Int, ds = [.int i] ∧ i.natAbs.log2 < 1920 ∧ Q (.str (toString i))
theorem link_str : LinkB X.K (fun xs H Q => ∃ i : Int, xs = [V.int i] ∧ i.natAbs.log2 < 1920 ∧ Q (V.str (toString i)) H) fStr := by
  intro fo ls H vs ds P Q ht r ⟨i, e, hz, h⟩ q
  subst e
  obtain ⟨v, rfl, rr⟩ := r.one
  exact ⟨i, by rw [rr.isInt], hz, q _ _ H h (Same.refl H) (.str _)⟩
def fSum (ds : List D) (Q : D → Prop) : Prop := ∃ ns : List Int, ds = [.list (ns.map .int)] ∧ Q (.int ns.sum)
theorem link_sum : LinkB X.K (rSum X.K) fSum := by
  intro fo ls H vs ds P Q ht r ⟨ns, e, h⟩ q
  subst e
  obtain ⟨v, rfl, rr⟩ := r.one
  obtain ⟨a, xs, rfl, h1, h2, h3⟩ := rr.list
  exact ⟨a, ns, rfl, by rw [← h3.of_ints]; exact .of h1, q _ _ H h (Same.refl H) (.int _)⟩
def fAll (ds : List D) (Q : D → Prop) : Prop := ∃ ns : List Bool, ds = [.list (ns.map .bool)] ∧ Q (.bool (ns.all id))
theorem link_all : LinkB X.K (rAll X.K) fAll := by
  intro fo ls H vs ds P Q ht r ⟨ns, e, h⟩ q
  subst e
  obtain ⟨v, rfl, rr⟩ := r.one
  obtain ⟨a, xs, rfl, h1, h2, h3⟩ := rr.list
  exact ⟨a, ns, rfl, by rw [← h3.of_bools]; exact .of h1, q _ _ H h (Same.refl H) (.bool _)⟩
def fAny (ds : List D) (Q : D → Prop) : Prop := ∃ ns : List Bool, ds = [.list (ns.map .bool)] ∧ Q (.bool (ns.any id))
theorem link_any : LinkB X.K (rAny X.K) fAny := by
  intro fo ls H vs ds P Q ht r ⟨ns, e, h⟩ q
  subst e
  obtain ⟨v, rfl, rr⟩ := r.one
  obtain ⟨a, xs, rfl, h1, h2, h3⟩ := rr.list
  exact ⟨a, ns, rfl, by rw [← h3.of_bools]; exact .of h1, q _ _ H h (Same.refl H) (.bool _)⟩
/-- max, min of a list of ints -/
def fMaxL (ds : List D) (Q : D → Prop) : Prop := ∃ ns : List Int, ds = [.list (ns.map .int)] ∧ 0 < ns.length ∧ ∀ m, m ∈ ns → (∀ y, y ∈ ns → y ≤ m) → Q (.int m)
theorem link_maxL : LinkB X.K (rMax X.K) fMaxL := by
  intro fo ls H vs ds P Q ht r ⟨ns, e, h0, h⟩ q
  subst e
  obtain ⟨v, rfl, rr⟩ := r.one
  obtain ⟨a, xs, rfl, h1, h2, h3⟩ := rr.list
  exact ⟨a, ns, rfl, by rw [← h3.of_ints]; exact .of h1, h0, fun m hm hy => q _ _ H (h m hm hy) (Same.refl H) (.int _)⟩
/-- tuple(xs), list(xs) -/
def fTuple (ds : List D) (Q : D → Prop) : Prop := match ds with
  | [.list xs] => Q (.tup xs)
  | [.tup xs] => Q (.tup xs)
  | _ => False
theorem link_tuple : LinkB X.K (fun xs H Q => ∃ p ys, xs = [V.ref p] ∧ ((SqL X.K H p ys ∧ ∀ l, H l = none → Q (V.ref l) (upd H l (.tup ys))) ∨ (SqT X.K H p ys ∧ Q (.ref p) H))) fTuple := by
  intro fo ls H vs ds P Q ht r h q
  unfold fTuple at h
  split at h
  · obtain ⟨v, rfl, rr⟩ := r.one
    obtain ⟨a, xs, rfl, h1, h2, h3⟩ := rr.list
    exact ⟨a, xs, rfl, .inl ⟨.of h1, fun l hl => q _ _ _ h (same_upd hl) (new_tup ht hl h2 h3)⟩⟩
  · obtain ⟨v, rfl, rr⟩ := r.one
    obtain ⟨a, xs, e, h1, h2, h3⟩ := rr.tup
    subst e
    cases rr with
    | cl r => exact ⟨a, xs, rfl, .inr ⟨h1, q _ _ H h (Same.refl H) r⟩⟩
  · exact h.elim
def fList (ds : List D) (Q : D → Prop) : Prop := match ds with
  | [.list xs] => Q (.list xs)
  | [.tup xs] => Q (.list xs)
  | _ => False
theorem link_list : LinkF X.K (fun xs H Q => ∃ p ys, xs = [V.ref p] ∧ (SqL X.K H p ys ∨ SqT X.K H p ys) ∧ ∀ l, H l = none → Q (V.ref l) (upd H l (.lst ys))) fList := by
  intro fo ls H vs ds P Q ht r h q
  unfold fList at h
  split at h
  · obtain ⟨v, rfl, rr⟩ := r.one
    obtain ⟨a, xs, rfl, h1, h2, h3⟩ := rr.list
    exact ⟨a, xs, rfl, .inl (.of h1), fun l hl => q _ _ _ h hl (same_upd hl) (.l upd_same h2 (h3.mono (sub_fresh hl (same_upd hl))))⟩
  · obtain ⟨v, rfl, rr⟩ := r.one
    obtain ⟨a, xs, rfl, h1, h2, h3⟩ := rr.tup
    exact ⟨a, xs, rfl, .inr h1, fun l hl => q _ _ _ h hl (same_upd hl) (.l upd_same h2 (h3.mono (sub_fresh hl (same_upd hl))))⟩
  · exact h.elim
end
end DL
set_option Elab.async false
set_option linter.all false
set_option maxRecDepth 100000
set_option maxHeartbeats 4000000
/-! DL7: in, repr, isinstance, join, sorted, slices; the dice; a list's items stored. -/
namespace DL
open PySem PySem.Spec PyProof.Rows L2
variable [TabsC]
theorem bt_len : bootBuiltins "len" = some (.builtin "len") := by decide +kernel
theorem bt_abs : bootBuiltins "abs" = some (.builtin "abs") := by decide +kernel
theorem bt_max : bootBuiltins "max" = some (.builtin "max") := by decide +kernel
theorem bt_min : bootBuiltins "min" = some (.builtin "min") := by decide +kernel
theorem bt_sum : bootBuiltins "sum" = some (.builtin "sum") := by decide +kernel
theorem bt_all : bootBuiltins "all" = some (.builtin "all") := by decide +kernel
theorem bt_any : bootBuiltins "any" = some (.builtin "any") := by decide +kernel
theorem bt_repr : bootBuiltins "repr" = some (.builtin "repr") := by decide +kernel
theorem bt_sorted : bootBuiltins "sorted" = some (.builtin "sorted") := by decide +kernel
theorem bt_int : bootBuiltins "int" = some (.type "int") := by decide +kernel
theorem bt_str : bootBuiltins "str" = some (.type "str") := by decide +kernel
theorem bt_bool : bootBuiltins "bool" = some (.type "bool") := by decide +kernel
theorem bt_tuple : bootBuiltins "tuple" = some (.type "tuple") := by decide +kernel
theorem bt_list : bootBuiltins "list" = some (.type "list") := by decide +kernel
theorem bt_set : bootBuiltins "set" = some (.type "set") := by decide +kernel
section
variable {X : Cx} {W : WX} {a b c e o : Expr} {es : List Expr} {ba bb : Bool} {ma mb : TM} {la : LM} {pos p : Pos} {x : Str}
/-! ### in -/
def rInX (K : PySem.W.Frag) (neg : Bool) : R2 := fun x y H Q => (∃ (c : Nat) (z : Str), x = .str ⟨#[c]⟩ ∧ y = .str z ∧ Q (.bl (neg ^^ decide (c ∈ z.cps.toList))) H) ∨ ((∃ d ds, Dp K H x d ∧ Dp K H y (.list ds) ∧ SeqAt.shaped d = true ∧ SeqAt.shaped (.list ds) = true ∧ Q (.bl (neg ^^ ds.any fun z => PyData.eqv z d)) H) ∨
  ∃ p xs, y = .ref p ∧ (SqL K H p xs ∨ SqT K H p xs) ∧ flatV x = true ∧ xs.all flatV = true ∧ Q (.bl (neg ^^ inV x xs)) H)
theorem op_inX (hu : X.A.units + 65 < cLine) : OpR X (compareOp .In) (rInX X.K false) := by
  intro pins s σ H x y v u Q I rx ry h
  rcases h with ⟨c, z, h1, h2, q⟩ | ⟨d, ds, h1, h2, h3, h4, q⟩ | ⟨p, xs, h1, h2, h3, h4, q⟩
  · exact op_in_sign pins s σ H x y v u Q I rx ry ⟨c, z, h1, h2, by simpa using q⟩
  · exact op_inD hu pins s σ H x y v u Q I rx ry ⟨d, ds, h1, h2, h3, h4, by simpa using q⟩
  · exact op_in_seq pins s σ H x y v u Q I rx ry ⟨p, xs, h1, h2, h3, h4, by simpa using q⟩
def fInX (neg : Bool) (x y : D) (Q : Bool → Prop) : Prop := match y with
  | .str z => ∃ c, x = .str ⟨#[c]⟩ ∧ Q (neg ^^ decide (c ∈ z.cps.toList))
  | .list ds => x.fine = true ∧ (D.list ds).fine = true ∧ Q (neg ^^ inD x ds)
  | .tup ds => ∃ (i : Int) (ns : List Int), x = .int i ∧ ds = ns.map .int ∧ Q (neg ^^ decide (i ∈ ns))
  | _ => False
theorem inV_cons (x y : V) (xs : List V) : inV x (y :: xs) = (eqV y x || inV x xs) := by unfold inV; rw [List.any_cons]
theorem inV_ints (i : Int) : ∀ ns : List Int, inV (.int i) (ns.map V.int) = decide (i ∈ ns)
  | [] => by simp [inV]
  | n :: ns => by
    rw [List.map_cons, inV_cons, inV_ints i ns, show eqV (.int n) (.int i) = (n == i) from rfl]
    by_cases e : n = i
    · simp [e]
    · have e' : ¬ i = n := fun z => e z.symm
      simp [e, e']
theorem flat_ints : ∀ ns : List Int, (ns.map V.int).all flatV = true
  | [] => rfl
  | n :: ns => by simp only [List.map_cons, List.all_cons, flat_ints ns]; rfl
theorem link_inX {neg : Bool} : LinkCmp X.K (rInX X.K neg) (fInX neg) := by
  intro fo ls H x y dx dy P Q rx ry h q
  unfold fInX at h
  split at h
  · obtain ⟨c, e, h⟩ := h
    subst e
    exact .inl ⟨c, _, rx.isStr, ry.isStr, q _ h⟩
  · obtain ⟨h1, h2, h⟩ := h
    rename_i ds
    refine .inr (.inl ⟨_, D.pys ds, rx.dpf h1, ?_, (fine_and h1).2, ?_, ?_⟩)
    · have := ry.dpf h2
      simpa only [D.py] using this
    · have := (fine_and h2).2
      simpa only [D.py] using this
    · rw [pys_any]
      exact q _ h
  · obtain ⟨i, ns, e1, e2, h⟩ := h
    subst e1 e2
    obtain ⟨a, xs, rfl, h1, h2, h3⟩ := ry.tup
    rw [h3.of_ints] at h1
    refine .inr (.inr ⟨a, _, rfl, .inr h1, by rw [rx.isInt]; rfl, flat_ints ns, ?_⟩)
    rw [rx.isInt, inV_ints]
    exact q _ h
  · exact h.elim
/-! ### repr -/
def fRepr (ds : List D) (Q : D → Prop) : Prop := ∃ d, ds = [d] ∧ d.isPy = true ∧ d.py.showable = true ∧ d.py.depth ≤ 60 ∧ d.py.shown.length ≤ sizeLine ∧ Q (.str d.py.shown)
def rRepr (K : PySem.W.Frag) : List V → Hp → VK → Prop := fun xs H Q => ∃ x d, xs = [x] ∧ Rep K H x d ∧ d.isPy = true ∧ d.py.showable = true ∧ d.py.depth ≤ 60 ∧ d.py.shown.length ≤ sizeLine ∧ Q (.str d.py.shown) H
theorem call_reprD (hG : GdOk X.A X.base) (hu : X.A.units + 64 < cLine) : CallR X (.builtin "repr") (rRepr X.K) := by
  intro pins s σ H xs us Q I r h
  obtain ⟨x, d, rfl, hd, hpy, h1, h3, h4, q⟩ := h
  obtain ⟨u, rfl, ru⟩ := vals1 r
  obtain ⟨as, rd, nm⟩ := Rep.reads I hG.2 hd ru hpy
  have byref : ∀ a, u = .ref a → wpAny (model X.prog X.w) X.A (call (.builtin "repr") [u]) (EP X pins σ Q) X.xe s := fun a e => by
    subst e
    exact repr_of_reads' rd h1 (fun _ => nm) hG.1 (by omega) (fun _ _ z => z) (fun h' t tk hk => ⟨.str d.py.shown, H, I.kept (t' := tk) hk, ⟨_, rfl⟩, q⟩) h4
  cases hd with
  | non =>
    cases ru
    exact PySem.P.repr_of_none ⟨.str _, H, I.tok _, ⟨_, rfl⟩, by simpa only [D.py, PyData.shown] using q⟩
  | bool b =>
    cases ru
    exact PySem.P.repr_of_bool ⟨.str _, H, I.tok _, ⟨_, rfl⟩, by simpa only [D.py, PyData.shown] using q⟩
  | int i =>
    obtain ⟨t, rfl⟩ := ru
    exact PySem.P.repr_of_int (by simpa [D.py, PyData.showable] using h1) ⟨.str _, H, I.tok _, ⟨_, rfl⟩, by simpa only [D.py, PyData.shown] using q⟩
  | str z =>
    obtain ⟨t, rfl⟩ := ru
    exact PySem.P.repr_of_str ⟨.str _, H, I.tok _, ⟨_, rfl⟩, by simpa only [D.py, PyData.shown] using q⟩ (by simpa only [D.py, PyData.shown] using h4)
  | list _ _ _ => exact byref _ ru
  | tup _ _ _ => exact byref _ ru
  | dict _ _ _ => exact byref _ ru
  | obj _ _ _ => simp [D.isPy] at hpy
  | dice _ => simp [D.isPy] at hpy
  | script _ _ => simp [D.isPy] at hpy
  | tdict _ _ _ _ => simp [D.isPy] at hpy
  | opq _ => simp [D.isPy] at hpy
  | ty _ => simp [D.isPy] at hpy
  | fn _ => simp [D.isPy] at hpy
  | exc _ _ _ => simp [D.isPy] at hpy
/-- repr of what is plain -/
def mRepr (ma : TM) : TM := fun δ Q E => ma δ (fun d => fRepr [d] Q) E
theorem de_repr {x : Str} (hG : GdOk X.A X.base) (hu : X.A.units + 64 < cLine) (hg : Gl X x) (hm : X.mg x = none) (hv : bootBuiltins x = some (.builtin "repr")) (ha : DE X W a false ma) (hn : x ≠ "__name__" := by decide) (hdb : (x == ("__debug__" : Str)) = false := by decide)
    (he : starEach [a] X.env = (false, eval a X.env) :: starEach [] X.env := by rfl) : DE X W (.Call (.Name x p) [a] [] pos) false (mRepr ma) :=
  PE.imp (pe_callB (call_reprD hG hu) hg hm hv (pa_cons ha pa_nil he) hn hdb he rfl) fun σ H Q ⟨F, own, δ, P, EK, A, m, q⟩ => ⟨F, own, δ, _, EK, A, m, fun d v H1 m1 s1 r1 => by
    obtain ⟨d', e, h1, h2, h4, h5, h⟩ := m1
    cases e
    exact ⟨v, d, rfl, r1.clean.mono sub_le, h1, h2, h4, h5, q _ _ H1 h s1 (.cl (.str _))⟩⟩
/-! ### isinstance -/
def D.tyn : D → Option String
  | .none => some "NoneType"
  | .bool _ => some "bool"
  | .int _ => some "int"
  | .str _ => some "str"
  | .list _ => some "list"
  | .tup _ => some "tuple"
  | .dict _ => some "dict"
  | _ => Option.none
theorem tyx_of {K : PySem.W.Frag} {H : Hp} {v : V} {d : D} {t : String} (r : Rep K H v d) (h : d.tyn = some t) : TyX K H v (.type t) := by
  cases r with
  | non => cases h; exact .base .non
  | bool b => cases h; exact .base (.bl b)
  | int i => cases h; exact .base (.int i)
  | str x => cases h; exact .base (.str x)
  | list h1 _ _ => cases h; exact .base (.lst h1)
  | tup h1 _ _ =>
    cases h
    rcases h1 with (h1 | ⟨o, h1⟩) | ⟨o, its, n, h1, h2, _⟩
    · exact .base (.tup h1)
    · exact .fTuple h1
    · exact .kTuple h1 h2
  | dict h1 _ _ =>
    cases h
    exact .fDict h1
  | dice _ => cases h
  | obj _ _ _ => cases h
  | script _ _ => cases h
  | tdict _ _ _ _ => cases h
  | opq _ => cases h
  | ty _ => cases h
  | fn _ => cases h
  | exc _ _ _ => cases h
theorem tyx_rv {K : PySem.W.Frag} {fo ls : List Addr} {H : Hp} {b : Bool} {v : V} {d : D} {t : String} (r : RV K fo ls H b v d) (h : d.tyn = some t) : TyX K H v (.type t) := by
  cases r with
  | cl r => exact tyx_of (r.mono sub_le) h
  | ml n a b c => cases h; exact .base (.lst a)
  | md n a b c => cases h; exact .base (.dK a)
  | mt n a b c => cases h
  | mo n a b c => cases h
/-! ### texts -/
def mJoin (ma mb : TM) : TM := fun δ Q E => ma δ (fun d => ∃ z, d = .str z ∧ mb δ (fun d' => ∃ ys : List Str, (d' = .list (ys.map .str) ∨ d' = .tup (ys.map .str)) ∧ (ys.map (·.length)).sum + ys.length * z.length ≤ 16777216 ∧ Q (.str (Txt.join z ys))) E) E
/-! ### sorted, of ints -/
/-! ### the dice -/
def mDice (ma : TM) : TM := fun δ Q E => ma δ (fun d => (∃ i j k : Int, d = .list [.int i, .int j, .int k]) ∧ Q .dice) E
theorem de_dice (h : DF X W e ma) : DE X W e false (mDice ma) := by
  refine ⟨fun pins s σ H Q I ⟨F, own, δ, P, EK, A, m, q⟩ => ?_⟩
  refine thn (h.run pins s σ H (fun v H1 => ∃ p i j k, v = .ref p ∧ H p = none ∧ Same H H1 ∧ H1 p = some (.lst [.int i, .int j, .int k]) ∧ P .dice) I ⟨F, own, δ, _, EK, A, m, fun d p H1 ⟨⟨i, j, k, ed⟩, pd⟩ hp s1 r1 => ?_⟩) fun u s1 ⟨v, H1, I1, rv, p, i, j, k, ev, hp, s01, h1, pd⟩ => ?_
  · subst ed
    cases r1 with
    | l h1 _ r1 =>
      have := Reps.of_ints (ns := [i, j, k]) r1
      subst this
      exact ⟨p, i, j, k, rfl, hp, s1, h1, pd⟩
  · subst ev
    obtain ⟨_, its, n, r, e⟩ := I1.hok p _ h1
    obtain ⟨t1, t2, t3, rfl⟩ : ∃ t1 t2 t3, its = [.int i t1, .int j t2, .int k t3] := by
      cases r with
      | cons a r => cases r with
        | cons b r => cases r with
          | cons c r =>
            cases r
            obtain ⟨t1, rfl⟩ := a
            obtain ⟨t2, rfl⟩ := b
            obtain ⟨t3, rfl⟩ := c
            exact ⟨t1, t2, t3, rfl⟩
    have J := Inv.retrack (o := diceO p) I1 (by rw [h1]; trivial) ⟨⟨i, j, k, t1, t2, t3, n, e⟩, ⟨_, e⟩, fun h1 h2 ⟨i, j, k, t, u, w, n, z⟩ f => ⟨i, j, k, t, u, w, n, f _ z⟩⟩
    have sn : Same H (upd H1 p (diceO p)) := Same.put s01 hp h1
    refine ⟨.ref p, _, J, rv, q .dice (.ref p) _ pd sn (.cl (.dice ?_))⟩
    rw [sub_out (new_out A hp)]
    exact upd_same
/-- within the roll: the dice as a list -/
theorem pss_dice {sts : List Stmt} {t : TS} (h : PSs X sts t) : PSs X sts (fun D σ H => ∃ q, H q = some (diceO q) ∧ ∀ i j k : Int, t { nx := fun _ _ => False, rt := fun v H' => ∃ i j k : Int, H' q = some (.lst [.int i, .int j, .int k]) ∧ D.rt v (upd H' q (diceO q)) } σ (upd H q (.lst [.int i, .int j, .int k]))) := by
  refine ⟨fun pins s σ H D I ⟨q, hq, ht⟩ => ?_⟩
  obtain ⟨⟨i, j, k, t1, t2, t3, n, e⟩, _, _⟩ := I.hok q _ hq
  have J : Inv X pins σ (upd H q (.lst [.int i, .int j, .int k])) s := Inv.retrack I (by rw [hq]; trivial) ⟨(by show 3 ≤ sizeLine; rw [sizeLine_eq]; decide), [.int i t1, .int j t2, .int k t3], n, .cons ⟨_, rfl⟩ (.cons ⟨_, rfl⟩ (.cons ⟨_, rfl⟩ .nil)), e⟩
  refine thn (h.run pins s σ _ _ J (ht i j k)) fun fl s1 hs => ?_
  cases fl with
  | next =>
    obtain ⟨_, _, _, z⟩ := hs
    exact z.elim
  | brk =>
    obtain ⟨_, _, _, z⟩ := hs
    exact z.elim
  | cont =>
    obtain ⟨_, _, _, z⟩ := hs
    exact z.elim
  | ret u =>
    obtain ⟨v, σ', H', I', rv, i', j', k', hq', hd⟩ := hs
    obtain ⟨_, its, n', r, e'⟩ := I'.hok q _ hq'
    obtain ⟨u1, u2, u3, rfl⟩ : ∃ u1 u2 u3, its = [.int i' u1, .int j' u2, .int k' u3] := by
      cases r with
      | cons a r => cases r with
        | cons b r => cases r with
          | cons c r =>
            cases r
            obtain ⟨t1, rfl⟩ := a
            obtain ⟨t2, rfl⟩ := b
            obtain ⟨t3, rfl⟩ := c
            exact ⟨t1, t2, t3, rfl⟩
    have J' := Inv.retrack (o := diceO q) I' (by rw [hq']; trivial) ⟨⟨i', j', k', u1, u2, u3, n', e'⟩, ⟨_, e'⟩, fun h1 h2 ⟨i, j, k, t, u, w, n, z⟩ f => ⟨i, j, k, t, u, w, n, f _ z⟩⟩
    exact ⟨v, σ', _, J', rv, hd⟩
def mRoll : FM := fun ds Q _ => ∃ n : Int, ds = [.dice, .int n] ∧ 0 < n ∧ n < 1073741824 ∧ ∀ r : Int, 0 ≤ r → r < n → Q (.int r)
end
end DL
set_option Elab.async false
set_option linter.all false
set_option maxRecDepth 100000
set_option maxHeartbeats 4000000
/-! DL8: the end of a law. -/
namespace DL
open PySem PySem.Spec PyProof.Rows L2
variable [TabsC]
/-- the law's script as data; the law gives True -/
def LawTrue (m : FM) : Prop := ∀ ns : List Int, ns.length ≤ 63 → m [.script ns] (fun d => d = .bool true) NoE
section
variable {P : Program} {w : World} {K : PySem.W.Frag} {mg mb : Str → Option Value} {k : Nat} {fa a : Addr} {m : FM} {s1 : Shared} {vs : List Value} {ns : List Int}
/-- the call, over an abstract heap H that tracks nothing but the script -/
theorem law_core (KX : K.In s1.heap) (hns : s1.heap.Ns mainGlobals mg) (hb : s1.heap.Ns builtinsNs mb) (hbb : ∀ x : Str, x ≠ "__name__" → mb x = bootBuiltins x) (hlim : s1.heap.NoLimit) (hg : s1.gens = #[]) (hT : TabsC.T = []) (hSM : ∃ mm, s1.heap.Ns sysModules mm)
    (ha : s1.heap.get? a = some { cls := .type "list", data := .seq vs.toArray }) (hr : Room k callerA) (F : ∀ base : Heap, K.In base → base.Ns mainGlobals mg → FnD P w K mg base k fa m)
    (hm : LawTrue m) (hl : ns.length ≤ 63) (H : Hp) (hO : Only H) (hS : SqL K H a (ns.map V.int)) (hok : HOk P w H s1.heap) (hA : ∀ b, H b ≠ none → b = a) (hK : H a ≠ none → K.lookup a = none) :
    codeAny (model P w) callerA (.call (.ref fa) ⟨[.ref a], []⟩) (fun r s' => r = .ok (.ret (.bool true)) ∧ OldK s1.heap s'.heap ∧ s'.os = s1.os ∧ AllBare s'.gens) s1 := by
  have out : ∀ {b : Addr}, (b ≠ a ∨ H b = none) → H b = none := fun {b} h => by
    cases q : H b with
    | none => rfl
    | some u =>
      have e : b = a := hA b (by rw [q]; simp)
      rcases h with h | h
      · exact absurd e h
      · rw [q] at h; cases h
  have dictK : ∀ {b : Addr} {mm : Str → Option Value}, s1.heap.Ns b mm → (hidT s1.heap H).Ns b mm := fun {b mm} hN => by
    obtain ⟨o, es, ep, e, d, r⟩ := hN
    refine ⟨o, es, ep, hidT_get e (out (.inl fun z => ?_)), d, r⟩
    rw [z, ha] at e
    cases e
    cases d
  have hKb : K.In (hidT s1.heap H) := fun b o e => hidT_get (KX b o e) (by
    cases q : H b with
    | none => rfl
    | some u =>
      have ea : b = a := hA b (by rw [q]; simp)
      rw [ea] at e q
      rw [hK (by rw [q]; simp)] at e
      cases e)
  obtain ⟨mc, l1, l2⟩ := hlim
  have env : Env0 P w K mg (hidT s1.heap H) callerA [] s1 H :=
    ⟨rfl, ⟨hKb, dictK hns, ⟨mb, dictK hb, hbb⟩, mc, dictK l1, l2⟩, fun b o e => of_hidT e, Nat.le_of_eq (hidT_size _ _), trivial, fun b hb => absurd hb (by simp [frs]), hok, .of_eq hg⟩
  have sp : spD K m [.ref a] H (fun v _ => v = .bl true) (fun _ _ _ => False) :=
    ⟨[], [.script ns], _, NoE, fun l h => absurd h (by simp), by rw [hT]; exact fun p hp => absurd hp (by simp), .cons (.script (by rw [show sub H [] = H from funext fun b => if_neg (by simp)]; exact hS) (Nat.le_trans hl (by rw [sizeLine_eq]; decide))) .nil, hm ns hl, fun d v H' e _ r => by
      subst e
      cases r
      rfl, fun _ _ _ _ e => e.elim⟩
  refine codeAny_mono ((F _ hKb (dictK hns)) callerA [] s1 H [.ref a] [.ref a] _ _ ⟨rfl, let ⟨mm, hm⟩ := hSM; ⟨mm, dictK hm⟩⟩ hr env (.cons rfl .nil) sp) fun r s' h => ?_
  match r, h with
  | .error e, h =>
    obtain ⟨_, _, _, _, _, _, _, _, _, _, _, _, z⟩ := h
    exact z.elim
  | .ok (.ret u), h =>
    obtain ⟨v, H', hos, hbare, hun, hok', hrel, hv⟩ := h
    have ev : v = .bl true := hv
    rw [ev] at hrel
    have eu : u = Value.bool true := hrel
    rw [eu]
    refine ⟨rfl, OldK.of_keep fun b o e => ?_, hos, hbare⟩
    rcases hO b with z | ⟨ob, xs, z⟩
    · exact hun.keep b o e z (by simp [frs]) (by simp)
    · have g1 := (hok b _ z).1
      have g2 := (hok' b _ (hun.frzs b ob _ z)).1
      rw [e] at g1
      cases g1
      exact g2
theorem law_callD (KX : K.In s1.heap) (hns : s1.heap.Ns mainGlobals mg) (hb : s1.heap.Ns builtinsNs mb) (hbb : ∀ x : Str, x ≠ "__name__" → mb x = bootBuiltins x) (hlim : s1.heap.NoLimit) (hg : s1.gens = #[]) (hT : TabsC.T = []) (hSM : ∃ mm, s1.heap.Ns sysModules mm)
    (ha : s1.heap.get? a = some { cls := .type "list", data := .seq vs.toArray }) (hi : IntsAre vs ns) (hr : Room k callerA) (F : ∀ base : Heap, K.In base → base.Ns mainGlobals mg → FnD P w K mg base k fa m)
    (hm : LawTrue m) (hl : ns.length ≤ 63) :
    codeAny (model P w) callerA (.call (.ref fa) ⟨[.ref a], []⟩) (fun r s' => r = .ok (.ret (.bool true)) ∧ OldK s1.heap s'.heap ∧ s'.os = s1.os ∧ AllBare s'.gens) s1 := by
  have hz : ns.length ≤ sizeLine := Nat.le_trans hl (by rw [sizeLine_eq]; decide)
  cases hk : K.lookup a with
  | some o =>
    have e := KX a o hk
    rw [ha] at e
    cases e
    exact law_core KX hns hb hbb hlim hg hT hSM ha hr F hm hl (fun _ => none) (fun _ => .inl rfl) (.inr ⟨_, vs.toArray, _, hk, rfl, rfl, rfl, (by rw [List.size_toArray, hi.length]; exact hz), by simpa using vals_of_ints hi⟩) (fun b u z => nomatch z) (fun b z => absurd rfl z) fun z => absurd rfl z
  | none =>
    have at_a : (fun b : Addr => if b = a then some (HO.frz { cls := .type "list", data := .seq vs.toArray } (.lst (ns.map V.int))) else none) a = some (HO.frz { cls := .type "list", data := .seq vs.toArray } (.lst (ns.map V.int))) := if_pos rfl
    refine law_core KX hns hb hbb hlim hg hT hSM ha hr F hm hl (fun b => if b = a then some (HO.frz { cls := .type "list", data := .seq vs.toArray } (.lst (ns.map V.int))) else none) (fun b => ?_) (.inl (.inr ⟨_, at_a⟩)) (fun b u z => ?_) (fun b z => ?_) fun _ => hk
    · by_cases e : b = a
      · exact .inr ⟨_, _, if_pos e⟩
      · exact .inl (if_neg e)
    · by_cases e : b = a
      · have z := (if_pos e).symm.trans z
        cases z
        rw [e]
        exact ⟨ha, (by rw [List.length_map]; exact hz), vs, _, vals_of_ints hi, ha⟩
      · have z := (if_neg e).symm.trans z
        cases z
    · by_cases e : b = a
      · exact e
      · exact absurd (if_neg e) z
end
end DL
set_option Elab.async false
set_option linter.all false
set_option maxRecDepth 100000
set_option maxHeartbeats 4000000
/-! DL9: more forms: comprehensions stored, two names at once, displays of dicts, slices, zip, tuple(range). -/
namespace DL
open PySem PySem.Spec PyProof.Rows L2
variable [TabsC]
theorem units65 {A : Around} {k : Nat} (hr : Room k A) : A.units + 65 < cLine := by have := hr.un; omega
section
variable {X : Cx} {W : WX} {a b c e e2 o : Expr} {es : List Expr} {ba bb : Bool} {ma mb : TM} {la : LM} {pos p : Pos} {x y : Str} {k : Nat} {f : Addr} {fd : FuncData} {ps : List Str} {m : FM}
/-! ### name = [..] -/
/-! ### a, b = [], e -/
def sParM (i j : Nat) (ma mb : TM) : SM := fun δ k => ma δ (fun d => mb δ (fun e => k.nx ((δ.set i (.m d)).set j (.v e))) (k.er δ)) (k.er δ)
/-! ### displays of dicts -/
def keyD : Key → D
  | .inl i => .int i
  | .inr x => .str x
def putD (kvs : List (Key × D)) (k : Key) (v : D) : List (Key × D) := if (kvs.any fun kv => decide (kv.1 = k)) = true then kvs.map (fun kv => if kv.1 = k then (kv.1, v) else kv) else kvs ++ [(k, v)]
def mergeD (kvs more : List (Key × D)) : List (Key × D) := more.foldl (fun acc kv => putD acc kv.1 kv.2) kvs
def valD (kvs : List (Key × D)) (k : Key) : Option D := (kvs.find? fun kv => decide (kv.1 = k)).map (·.2)
theorem RepKs.keys {K : PySem.W.Frag} {H : Hp} : ∀ {vs : List (Key × V)} {ds : List (Key × D)}, RepKs K H vs ds → vs.map (·.1) = ds.map (·.1)
  | _, _, .nil => rfl
  | _, _, .cons _ r => by simp only [List.map_cons, RepKs.keys r]
theorem RepKs.any {K : PySem.W.Frag} {H : Hp} (k : Key) : ∀ {vs : List (Key × V)} {ds : List (Key × D)}, RepKs K H vs ds → (vs.any fun kv => decide (kv.1 = k)) = (ds.any fun kv => decide (kv.1 = k))
  | _, _, .nil => rfl
  | _, _, .cons _ r => by simp only [List.any_cons, RepKs.any k r]
theorem RepKs.repl {K : PySem.W.Frag} {H : Hp} {k : Key} {v : V} {d : D} (rv : Rep K H v d) : ∀ {vs : List (Key × V)} {ds : List (Key × D)}, RepKs K H vs ds → RepKs K H (vs.map fun kv => if kv.1 = k then (kv.1, v) else kv) (ds.map fun kv => if kv.1 = k then (kv.1, d) else kv)
  | _, _, .nil => .nil
  | _, _, @RepKs.cons _ _ k' v' _ d' _ h r => by
    simp only [List.map_cons]
    by_cases e : k' = k
    · rw [if_pos e, if_pos e]
      exact .cons rv (RepKs.repl rv r)
    · rw [if_neg e, if_neg e]
      exact .cons h (RepKs.repl rv r)
theorem RepKs.append {K : PySem.W.Frag} {H : Hp} : ∀ {vs vs' : List (Key × V)} {ds ds' : List (Key × D)}, RepKs K H vs ds → RepKs K H vs' ds' → RepKs K H (vs ++ vs') (ds ++ ds')
  | _, _, _, _, .nil, s => s
  | _, _, _, _, .cons h r, s => .cons h (RepKs.append r s)
theorem RepKs.put {K : PySem.W.Frag} {H : Hp} {k : Key} {v : V} {d : D} {vs : List (Key × V)} {ds : List (Key × D)} (r : RepKs K H vs ds) (rv : Rep K H v d) : RepKs K H (putK vs k v) (putD ds k d) := by
  unfold putK putD
  rw [r.any k]
  split
  · exact r.repl rv
  · exact r.append (.cons rv .nil)
theorem RepKs.val {K : PySem.W.Frag} {H : Hp} (k : Key) : ∀ {vs : List (Key × V)} {ds : List (Key × D)} {d : D}, RepKs K H vs ds → valD ds k = some d → ∃ v, valV vs k = some v ∧ Rep K H v d
  | _, _, _, .nil, h => by cases h
  | _, _, d, @RepKs.cons _ _ k' v' vs d' ds h r, e => by
    by_cases q : k' = k
    · refine ⟨v', by rw [valV_pos q], ?_⟩
      have : valD ((k', d') :: ds) k = some d' := by simp [valD, List.find?_cons, q]
      rw [this] at e
      cases e
      exact h
    · have : valD ((k', d') :: ds) k = valD ds k := by simp [valD, List.find?_cons, q]
      rw [this] at e
      obtain ⟨v, h1, h2⟩ := RepKs.val k r e
      exact ⟨v, by rw [valV_neg q]; exact h1, h2⟩
theorem RepKs.none {K : PySem.W.Frag} {H : Hp} (k : Key) : ∀ {vs : List (Key × V)} {ds : List (Key × D)}, RepKs K H vs ds → valD ds k = Option.none → valV vs k = Option.none
  | _, _, .nil, _ => rfl
  | _, _, @RepKs.cons _ _ k' v' vs d' ds h r, e => by
    by_cases q : k' = k
    · have : valD ((k', d') :: ds) k = some d' := by simp [valD, List.find?_cons, q]
      rw [this] at e
      cases e
    · have : valD ((k', d') :: ds) k = valD ds k := by simp [valD, List.find?_cons, q]
      rw [this] at e
      rw [valV_neg q]
      exact RepKs.none k r e
def mPairs : List (TM × TM) → List DV → (List (D × D) → Prop) → (Er → Prop) → Prop
  | [], _, P, _ => P []
  | (mk, mv) :: r, δ, P, E => mk δ (fun x => mv δ (fun y => mPairs r δ (fun ps => P ((x, y) :: ps)) E) E) E
def mpNil : List (TM × TM) := []
def mpCons (mk mv : TM) (r : List (TM × TM)) : List (TM × TM) := (mk, mv) :: r
inductive RepP (K : PySem.W.Frag) (H : Hp) : List (V × V) → List (D × D) → Prop
  | nil : RepP K H [] []
  | cons {x y : V} {d d' : D} {vs : List (V × V)} {ds : List (D × D)} : Rep K H x d → Rep K H y d' → RepP K H vs ds → RepP K H ((x, y) :: vs) ((d, d') :: ds)
theorem RepP.split {K : PySem.W.Frag} {H : Hp} : ∀ {kvs : List (Key × D)} {vs : List (V × V)}, RepP K H vs (kvs.map fun kv => (keyD kv.1, kv.2)) → ∃ ws : List (Key × V), vs = ws.map (fun kv => (kV kv.1, kv.2)) ∧ RepKs K H ws kvs
  | [], _, r => by cases r; exact ⟨[], rfl, .nil⟩
  | (k, d) :: kvs, _, r => by
    cases r with
    | cons h1 h2 r =>
      obtain ⟨ws, rfl, rr⟩ := RepP.split r
      cases k with
      | inl i => cases h1; exact ⟨(Sum.inl i, _) :: ws, rfl, .cons h2 rr⟩
      | inr z => cases h1; exact ⟨(Sum.inr z, _) :: ws, rfl, .cons h2 rr⟩
def mDisp (ms : List (TM × TM)) : TM := fun δ Q E => mPairs ms δ (fun ps => ∃ kvs : List (Key × D), ps = kvs.map (fun kv => (keyD kv.1, kv.2)) ∧ kvs.length ≤ 15 ∧ Q (.dict (mergeD [] kvs))) E
theorem df_dnew : DF X W (.Dict [] [] pos) (mC (.dict [])) := PE.imp pe_dnewK fun σ H Q ⟨F, own, δ, P, EK, A, m, q⟩ p hp => q _ p _ m hp (same_upd hp) (.d upd_same (Nat.zero_le _) .nil)
/-! ### slices -/
abbrev OM := List DV → (Option Int → Prop) → (Er → Prop) → Prop
def tpo (K : PySem.W.Frag) (W : WX) (mo : OM) : TO := fun σ H Q => ∃ (F : Fm) (own : List Addr) (δ : List DV) (P : Option Int → Prop) (EK : Er → Prop), At K W σ H F own δ EK ∧ mo δ P EK ∧ ∀ o H', P o → Same H H' → Q o H'
def DO (X : Cx) (W : WX) (e : Option Expr) (mo : OM) : Prop := PO X e (tpo X.K W mo)
theorem PO.imp {e : Option Expr} {t t' : TO} (h : PO X e t) (kk : ∀ σ H Q, t' σ H Q → t σ H Q) : PO X e t' := ⟨fun pins s σ H Q I q => h.run pins s σ H Q I (kk _ _ _ q)⟩
def mNoPart : OM := fun _ P _ => P none
def mPart (ma : TM) : OM := fun δ P E => ma δ (fun d => ∃ i, d = .int i ∧ P (some i)) E
theorem do_none : DO X W none mNoPart := PO.imp po_none fun σ H Q ⟨F, own, δ, P, EK, A, m, q⟩ => q none H m (Same.refl H)
theorem do_some (ha : DE X W a ba ma) : DO X W (some a) (mPart ma) := PO.imp (po_some ha) fun σ H Q ⟨F, own, δ, P, EK, A, m, q⟩ => ⟨F, own, δ, _, EK, A, m, fun d v H1 ⟨i, ed, pp⟩ s r => by
  subst ed
  exact ⟨i, r.isInt, q _ H1 pp s⟩⟩
def cutL {α : Type} (xs : List α) (lo hi : Option Int) : List α := (xs.drop (HT.sIx xs.length 0 lo)).take (HT.sIx xs.length xs.length hi - HT.sIx xs.length 0 lo)
def fSlice (d : D) (lo hi : Option Int) (Q : D → Prop) : Prop := match d with
  | .list xs => Q (.list (cutL xs lo hi))
  | .tup xs => Q (.tup (cutL xs lo hi))
  | _ => False
def mSlice (ma : TM) (ml mu : OM) : TM := fun δ Q E => ma δ (fun d => ml δ (fun lo => mu δ (fun hi => fSlice d lo hi Q) E) E) E
theorem Reps.cut {K : PySem.W.Frag} {H : Hp} {xs : List V} {ds : List D} (r : Reps K H xs ds) (lo hi : Option Int) : Reps K H (cutV xs lo hi) (cutL ds lo hi) := by
  unfold cutV cutL
  rw [r.length]
  exact (r.drop _).take _
theorem de_slice {lo hi : Option Expr} {ml mu : OM} {p2 : Pos} (he : DE X W e ba ma) (hl : DO X W lo ml) (hu : DO X W hi mu) : DE X W (.Subscript e (.Slice lo hi none p2) pos) false (mSlice ma ml mu) :=
  PE.imp (pe_slice (SlR.or sl_list sl_tupA) he hl hu) fun σ H Q ⟨F, own, δ, P, EK, A, m, q⟩ => ⟨F, own, δ, _, EK, A, m, fun d v H1 m1 s1 r1 => ⟨F, own, δ, _, EK, A.on s1, m1, fun l H2 m2 s2 => ⟨F, own, δ, _, EK, A.on (s1.trans s2), m2, fun u H3 m3 s3 => by
    have r3 := r1.mono (s2.trans s3).ob
    have t3 := (A.env.grow ((s1.trans s2).trans s3)).trk
    unfold fSlice at m3
    split at m3
    · obtain ⟨a, xs, rfl, h1, h2, h3⟩ := r3.list
      have hz : (cutV xs l u).length ≤ sizeLine := Nat.le_trans (cutV_length xs l u) h2
      exact .inl ⟨a, xs, rfl, .of h1, fun p hp => q _ _ _ m3 (((s1.trans s2).trans s3).trans (same_upd hp)) (.cl (new_list t3 hp hz (h3.cut l u)))⟩
    · rename_i dsx
      obtain ⟨a, xs, ev, h1, h2, h3⟩ := r3.tup
      subst ev
      have hz : (cutV xs l u).length ≤ sizeLine := Nat.le_trans (cutV_length xs l u) h2
      refine .inr ⟨a, xs, rfl, h1, fun ⟨q1, q2⟩ => ?_, fun _ p hp => q _ _ _ m3 (((s1.trans s2).trans s3).trans (same_upd hp)) (.cl (new_tup t3 hp hz (h3.cut l u)))⟩
      refine q _ _ H3 m3 ((s1.trans s2).trans s3) ?_
      have e : cutL dsx l u = dsx := by
        unfold cutL
        rw [← h3.length, q1, q2, List.drop_zero, Nat.sub_zero, h3.length, List.take_length]
      rw [e]
      cases r3 with
      | cl r3 => exact .cl r3
    · exact m3.elim⟩⟩⟩
/-! ### zip of two lists, of two tuples -/
def zipD (xs ys : List D) : List D := (xs.zip ys).map fun q => .tup [q.1, q.2]
def mZip (la : LM) : LM := fun δ P E => la δ (fun ds => (∃ xs ys, ds = [.list xs, .list ys] ∧ P (zipD xs ys)) ∨ (∃ xs ys, ds = [.tup xs, .tup ys] ∧ P (zipD xs ys))) E
end
end DL
set_option Elab.async false
set_option linter.all false
set_option maxRecDepth 100000
set_option maxHeartbeats 4000000
/-! DL10: loops over data. -/
namespace DL
open PySem PySem.Spec PyProof.Rows L2
variable [TabsC]
section
variable {g : GM} {mt : BM} {me : TM} {mb : SM} {δ0 δ : List DV} {k : KD}
/-- a comprehension whose turns are reckoned -/
theorem compL_det {ds : List D} (p : D → Bool) (f : D → D) (h : ∀ d, d ∈ ds → ∀ (R : D → Prop) (S : Prop), (if p d = true then R (f d) else S) → g d δ0 fun δ' => mt δ' (fun b => if b = true then me δ' R NoE else S) NoE) :
    ∀ {acc : List D} {Q : D → Prop}, Q (.list (acc ++ (ds.filter p).map f)) → compL g mt me δ0 ds acc Q := by
  induction ds with
  | nil =>
    intro acc Q q
    simpa [compL] using q
  | cons d ds ih =>
    intro acc Q q
    unfold compL
    refine h d List.mem_cons_self _ _ ?_
    by_cases e : p d = true
    · rw [if_pos e]
      refine ih (fun d' h' => h d' (List.mem_cons_of_mem _ h')) ?_
      rw [List.filter_cons_of_pos e] at q
      simpa using q
    · rw [if_neg e]
      refine ih (fun d' h' => h d' (List.mem_cons_of_mem _ h')) ?_
      rw [List.filter_cons_of_neg e] at q
      exact q
/-- .. without a test -/
theorem compL_map {ds : List D} (f : D → D) (h : ∀ d, d ∈ ds → ∀ (R : D → Prop) (S : Prop), R (f d) → g d δ0 fun δ' => mt δ' (fun b => if b = true then me δ' R NoE else S) NoE) {acc : List D} {Q : D → Prop} (q : Q (.list (acc ++ ds.map f))) : compL g mt me δ0 ds acc Q := by
  refine compL_det (fun _ => true) f (fun d hd R S r => h d hd R S (by simpa using r)) ?_
  have e : ds.filter (fun _ => true) = ds := List.filter_eq_self.mpr fun _ _ => rfl
  rw [e]
  exact q
/-- a loop by what holds ahead of each turn -/
theorem forL_inv {ds : List D} (I : Nat → List DV → Prop) (h : ∀ (i : Nat) (d : D) (δ : List DV) (N : List DV → Prop), ds[i]? = some d → I i δ → (∀ δ', I (i + 1) δ' → N δ') → g d δ fun δ' => mb δ' { k with nx := N, ct := N, bk := k.nx })
    (h0 : I 0 δ) (hd : ∀ δ, I ds.length δ → k.nx δ) : forL g mb ds δ k := by
  have go : ∀ (n i : Nat) (δ : List DV), i + n = ds.length → I i δ → forL g mb (ds.drop i) δ k := by
    intro n
    induction n with
    | zero =>
      intro i δ e hi
      have e' : i = ds.length := by omega
      subst e'
      rw [List.drop_length]
      exact hd δ hi
    | succ n ih =>
      intro i δ e hi
      have hl : i < ds.length := by omega
      have eg : ds[i]? = some ds[i] := List.getElem?_eq_getElem hl
      rw [drop_get eg]
      exact h i _ δ _ eg hi fun δ' h' => ih (i + 1) δ' (by omega) h'
  simpa using go ds.length 0 δ (by omega) h0
end
theorem rangeD_get {lo : Int} {n i : Nat} {d : D} (h : (rangeD lo n)[i]? = some d) : i < n ∧ d = .int (lo + i) := by
  unfold rangeD at h
  rw [List.getElem?_map] at h
  by_cases hi : i < n
  · rw [List.getElem?_range hi] at h
    exact ⟨hi, (Option.some.inj h).symm⟩
  · rw [List.getElem?_eq_none (by simpa using hi)] at h
    cases h
theorem rangeD_mem {lo : Int} {n : Nat} {d : D} (h : d ∈ rangeD lo n) : ∃ i : Nat, i < n ∧ d = .int (lo + i) := by
  obtain ⟨i, hi⟩ := List.getElem?_of_mem h
  exact ⟨i, rangeD_get hi⟩
theorem atI_of {α : Type} {xs : List α} {i : Int} (h0 : 0 ≤ i) (h1 : i < xs.length) : ∃ x, atI xs i = some x ∧ x ∈ xs := by
  have hn : i.toNat < xs.length := by omega
  refine ⟨xs[i.toNat], ?_, List.getElem_mem hn⟩
  have := atI_nat (xs := xs) (j := i.toNat) (v := xs[i.toNat]) (List.getElem?_eq_getElem hn)
  rwa [Int.toNat_of_nonneg h0] at this
end DL
set_option Elab.async false
set_option linter.all false
set_option maxRecDepth 100000
set_option maxHeartbeats 4000000
/-! DL11: equations for the walk over data. -/
namespace DL
open PySem PySem.Spec PyProof.Rows L2
variable [TabsC]
theorem p61 : (2 : Int) ^ 61 = 2305843009213693952 := by decide
theorem szl {n : Nat} (h : n ≤ 16777216) : n ≤ sizeLine := by rw [sizeLine_eq]; exact h
theorem eAbs {i : Int} {Q : D → Prop} : fAbs [.int i] Q = Q (.int (if i < 0 then -i else i)) := propext ⟨fun ⟨j, e, q⟩ => by cases e; exact q, fun q => ⟨i, rfl, q⟩⟩
theorem eMax2 {i j : Int} {Q : D → Prop} : fMax2 [.int i, .int j] Q = Q (.int (if j > i then j else i)) := propext ⟨fun ⟨_, _, e, q⟩ => by cases e; exact q, fun q => ⟨i, j, rfl, q⟩⟩
theorem eMin2 {i j : Int} {Q : D → Prop} : fMin2 [.int i, .int j] Q = Q (.int (if j < i then j else i)) := propext ⟨fun ⟨_, _, e, q⟩ => by cases e; exact q, fun q => ⟨i, j, rfl, q⟩⟩
section
variable {i j : Int} {Q : D → Prop} {R : Bool → Prop} {a b : Str} {xs ys : List D} {ns : List Int} {p q : Bool} {C : Int → Int → Prop} {g : Int → Int → Int} {gt : Int → Int → Bool} {ht : List Nat → List Nat → Bool} {lo hi : Option Int}
theorem e_fIx_1 : fIx (.list xs) (.int i) Q = ∃ d, atI xs i = some d ∧ Q d := rfl
theorem e_fIx_2 : fIx (.tup xs) (.int i) Q = ∃ d, atI xs i = some d ∧ Q d := rfl
theorem e_fIx_3 : fIx (.script ns) (.int i) Q = ∃ n, atI ns i = some n ∧ Q (.int n) := rfl
theorem e_fIx_4 : fIx (.str a) (.int i) Q = ∃ c, a.length ≤ sizeLine ∧ atI a.cps.toList i = some c ∧ Q (.str ⟨#[c]⟩) := rfl
theorem e_fAdd_1 : fAdd (.int i) (.int j) Q = Q (.int (i + j)) := rfl
theorem e_fAdd_2 : fAdd (.str a) (.str b) Q = (a.length + b.length ≤ sizeLine ∧ Q (.str (a ++ b))) := rfl
theorem e_fAdd_3 : fAdd (.tup xs) (.tup ys) Q = (xs.length + ys.length ≤ sizeLine ∧ Q (.tup (xs ++ ys))) := rfl
theorem e_fAdd_4 : fAdd (.list xs) (.list ys) Q = (xs.length + ys.length ≤ sizeLine ∧ Q (.list (xs ++ ys))) := rfl
theorem e_fSub_1 : fSub (.int i) (.int j) Q = Q (.int (i - j)) := rfl
theorem e_fI_1 : fI C g (.int i) (.int j) Q = (C i j ∧ Q (.int (g i j))) := rfl
theorem e_fCmp_1 : fCmp gt ht (.int i) (.int j) R = R (gt i j) := rfl
theorem e_fCmp_2 : fCmp gt ht (.str a) (.str b) R = R (ht a.cps.toList b.cps.toList) := rfl
theorem e_fIsB_1 : fIsB (.bool p) (.bool q) R = R (decide (p = q)) := rfl
theorem e_fIsNotB_1 : fIsNotB (.bool p) (.bool q) R = R (!decide (p = q)) := rfl
theorem e_fLen_1 : fLen [.list xs] Q = Q (.int xs.length) := rfl
theorem e_fLen_2 : fLen [.tup xs] Q = Q (.int xs.length) := rfl
theorem e_fLen_3 : fLen [.script ns] Q = Q (.int ns.length) := rfl
theorem e_fLen_4 : fLen [.str a] Q = (a.length ≤ sizeLine ∧ Q (.int a.length)) := rfl
theorem e_fInt_1 : fInt [.int i] Q = Q (.int i) := rfl
theorem e_fInt_2 : fInt [.bool p] Q = Q (.int (if p then 1 else 0)) := rfl
theorem e_fTuple_1 : fTuple [.list xs] Q = Q (.tup xs) := rfl
theorem e_fTuple_2 : fTuple [.tup xs] Q = Q (.tup xs) := rfl
theorem e_fList_1 : fList [.list xs] Q = Q (.list xs) := rfl
theorem e_fList_2 : fList [.tup xs] Q = Q (.list xs) := rfl
theorem e_fSlice_1 : fSlice (.list xs) lo hi Q = Q (.list (cutL xs lo hi)) := rfl
theorem e_fSlice_2 : fSlice (.tup xs) lo hi Q = Q (.tup (cutL xs lo hi)) := rfl
end
/-- data of the plain kinds, at most n deep -/
def fineN (n : Nat) (d : D) : Prop := d.isPy = true ∧ d.py.canLay0 = true ∧ d.py.depth ≤ n
theorem fineN.fine {n : Nat} {d : D} (h : fineN n d) (hn : n ≤ 64) : d.fine = true := by
  unfold D.fine SeqAt.shaped
  rw [h.1, h.2.1, decide_eq_true (Nat.le_trans h.2.2 hn)]
  rfl
theorem fineN.mono {n m : Nat} {d : D} (h : fineN n d) (hn : n ≤ m) : fineN m d := ⟨h.1, h.2.1, Nat.le_trans h.2.2 hn⟩
theorem fineN_int {n : Nat} {i : Int} : fineN n (.int i) := ⟨rfl, rfl, Nat.zero_le _⟩
theorem fineN_bool {n : Nat} {b : Bool} : fineN n (.bool b) := ⟨rfl, rfl, Nat.zero_le _⟩
def okS (x : Str) : Prop := PyData.strOk x = true
theorem fineN_str {n : Nat} {x : Str} (h : okS x) : fineN n (.str x) := ⟨rfl, h, Nat.zero_le _⟩
theorem okS_iff {x : Str} : okS x ↔ ∀ c, c ∈ x.cps.toList → c < 0x110000 := by
  unfold okS PyData.strOk
  rw [Array.all_eq_true_iff_forall_mem]
  simp
theorem okS_append {x y : Str} (hx : okS x) (hy : okS y) : okS (x ++ y) := by
  rw [okS_iff] at *
  intro c hc
  have e : (x ++ y).cps = x.cps ++ y.cps := rfl
  rw [e, Array.toList_append, List.mem_append] at hc
  exact hc.elim (hx c) (hy c)
theorem okS_join {z : Str} (hz : okS z) : ∀ {ys : List Str}, (∀ y, y ∈ ys → okS y) → okS (Txt.join z ys) := by
  intro ys h
  have e : Txt.join z ys = Str.join z ys := StrLaws.glued_eq_join _ _
  rw [e]
  induction ys with
  | nil => exact (by decide +kernel : PyData.strOk Str.empty = true)
  | cons y ys ih =>
    cases ys with
    | nil => exact h y List.mem_cons_self
    | cons w ws => exact okS_append (okS_append (h y List.mem_cons_self) hz) (ih (fun w hw => h w (List.mem_cons_of_mem _ hw)) (StrLaws.glued_eq_join _ _))
theorem fineN_all {n : Nat} : ∀ {ds : List D}, (∀ d, d ∈ ds → fineN n d) → D.arePy ds = true ∧ PyData.canLayAll0 (D.pys ds) = true ∧ PyData.depthAll (D.pys ds) ≤ n
  | [], _ => ⟨rfl, rfl, Nat.zero_le _⟩
  | d :: ds, h => by
    obtain ⟨h1, h2, h3⟩ := h d List.mem_cons_self
    obtain ⟨g1, g2, g3⟩ := fineN_all (ds := ds) fun x hx => h x (List.mem_cons_of_mem _ hx)
    refine ⟨?_, ?_, ?_⟩
    · unfold D.arePy; rw [h1, g1]; rfl
    · unfold D.pys PyData.canLayAll0; rw [h2, g2]; rfl
    · unfold D.pys PyData.depthAll; omega
theorem fineN_list {n : Nat} {ds : List D} (h : ∀ d, d ∈ ds → fineN n d) : fineN (n + 1) (.list ds) := by
  obtain ⟨g1, g2, g3⟩ := fineN_all h
  refine ⟨?_, ?_, ?_⟩
  · unfold D.isPy; exact g1
  · unfold D.py PyData.canLay0; exact g2
  · unfold D.py PyData.depth; omega
theorem fineN_tup {n : Nat} {ds : List D} (h : ∀ d, d ∈ ds → fineN n d) : fineN (n + 1) (.tup ds) := by
  obtain ⟨g1, g2, g3⟩ := fineN_all h
  refine ⟨?_, ?_, ?_⟩
  · unfold D.isPy; exact g1
  · unfold D.py PyData.canLay0; exact g2
  · unfold D.py PyData.depth; omega
/-- equality of lists, item by item -/
def eqAll : List D → List D → Bool
  | [], [] => true
  | x :: xs, y :: ys => eqD x y && eqAll xs ys
  | _, _ => false
theorem eqvAll_pys : ∀ xs ys : List D, PyData.eqvAll (D.pys xs) (D.pys ys) = eqAll xs ys
  | [], [] => by simp [D.pys, PyData.eqvAll, eqAll]
  | [], _ :: _ => by simp [D.pys, PyData.eqvAll, eqAll]
  | _ :: _, [] => by simp [D.pys, PyData.eqvAll, eqAll]
  | x :: xs, y :: ys => by simp only [D.pys, PyData.eqvAll, eqAll, eqD, eqvAll_pys xs ys]
theorem eqD_list (xs ys : List D) : eqD (.list xs) (.list ys) = eqAll xs ys := by simp only [eqD, D.py, PyData.eqv, eqvAll_pys]
theorem eqD_tup (xs ys : List D) : eqD (.tup xs) (.tup ys) = eqAll xs ys := by simp only [eqD, D.py, PyData.eqv, eqvAll_pys]
theorem eqD_int (i j : Int) : eqD (.int i) (.int j) = (i == j) := by simp only [eqD, D.py, PyData.eqv]
theorem eqD_bool (i j : Bool) : eqD (.bool i) (.bool j) = (i == j) := by simp only [eqD, D.py, PyData.eqv]
theorem eqD_refl {d : D} (h : d.fine = true) : eqD d d = true := SeqAt.eqv_refl d.py (fine_lay h)
/-- equal lists, by what they hold -/
theorem fEq_same {d : D} {Q : Bool → Prop} (h : d.fine = true) (q : Q true) : fEq d d Q := ⟨h, h, by rw [eqD_refl h]; exact q⟩
theorem fNe_same {d : D} {Q : Bool → Prop} (h : d.fine = true) (q : Q false) : fNe d d Q := ⟨h, h, by rw [eqD_refl h]; exact q⟩
end DL
set_option Elab.async false
set_option linter.all false
set_option maxRecDepth 100000
set_option maxHeartbeats 4000000
/-! DL12: kinds; shown texts of plain data; decimal lengths. -/
namespace DL
open PySem PySem.Spec PyProof.Rows L2
variable [TabsC]
/-! ### kinds -/
def D.isI : D → Bool
  | .int _ => true
  | .bool _ => true
  | _ => false
def D.isB : D → Bool
  | .bool _ => true
  | _ => false
def D.isT : D → Bool
  | .tup _ => true
  | _ => false
theorem kit_int {d : D} {t : String} (h : d.tyn = some t) : kitB t "int" = some d.isI := by
  cases d with
  | none => cases h; exact (by decide +kernel : kitB "NoneType" "int" = some false)
  | bool _ => cases h; exact (by decide +kernel : kitB "bool" "int" = some true)
  | int _ => cases h; exact (by decide +kernel : kitB "int" "int" = some true)
  | str _ => cases h; exact (by decide +kernel : kitB "str" "int" = some false)
  | list _ => cases h; exact (by decide +kernel : kitB "list" "int" = some false)
  | tup _ => cases h; exact (by decide +kernel : kitB "tuple" "int" = some false)
  | dict _ => cases h; exact (by decide +kernel : kitB "dict" "int" = some false)
  | dice => cases h
  | script _ => cases h
  | tdict _ => cases h
  | opq _ _ => cases h
  | ty _ => cases h
  | obj _ _ => cases h
  | fn _ => cases h
  | exc _ _ _ _ _ => cases h
theorem kit_bool {d : D} {t : String} (h : d.tyn = some t) : kitB t "bool" = some d.isB := by
  cases d with
  | none => cases h; exact (by decide +kernel : kitB "NoneType" "bool" = some false)
  | bool _ => cases h; exact (by decide +kernel : kitB "bool" "bool" = some true)
  | int _ => cases h; exact (by decide +kernel : kitB "int" "bool" = some false)
  | str _ => cases h; exact (by decide +kernel : kitB "str" "bool" = some false)
  | list _ => cases h; exact (by decide +kernel : kitB "list" "bool" = some false)
  | tup _ => cases h; exact (by decide +kernel : kitB "tuple" "bool" = some false)
  | dict _ => cases h; exact (by decide +kernel : kitB "dict" "bool" = some false)
  | dice => cases h
  | script _ => cases h
  | tdict _ => cases h
  | opq _ _ => cases h
  | ty _ => cases h
  | obj _ _ => cases h
  | fn _ => cases h
  | exc _ _ _ _ _ => cases h
theorem kit_tup {d : D} {t : String} (h : d.tyn = some t) : kitB t "tuple" = some d.isT := by
  cases d with
  | none => cases h; exact (by decide +kernel : kitB "NoneType" "tuple" = some false)
  | bool _ => cases h; exact (by decide +kernel : kitB "bool" "tuple" = some false)
  | int _ => cases h; exact (by decide +kernel : kitB "int" "tuple" = some false)
  | str _ => cases h; exact (by decide +kernel : kitB "str" "tuple" = some false)
  | list _ => cases h; exact (by decide +kernel : kitB "list" "tuple" = some false)
  | tup _ => cases h; exact (by decide +kernel : kitB "tuple" "tuple" = some true)
  | dict _ => cases h; exact (by decide +kernel : kitB "dict" "tuple" = some false)
  | dice => cases h
  | script _ => cases h
  | tdict _ => cases h
  | opq _ _ => cases h
  | ty _ => cases h
  | obj _ _ => cases h
  | fn _ => cases h
  | exc _ _ _ _ _ => cases h
/-! ### texts -/
theorem okS_ofString (s : String) : okS (Str.ofString s) := by
  rw [okS_iff, Str.ofString_eq_toList]
  intro c hc
  simp only [List.mem_map] at hc
  obtain ⟨d, _, rfl⟩ := hc
  have := d.valid
  unfold Char.toNat
  unfold UInt32.isValidChar Nat.isValidChar at this
  omega
theorem len_dec {n : Int} (h0 : 0 ≤ n) : (Str.ofString (toString n)).length = (Nat.toDigits 10 n.toNat).length := by
  obtain ⟨m, rfl⟩ := Int.eq_ofNat_of_zero_le h0
  rw [Str.ofString_eq_toList]
  show ((toString (m : Int)).toList.map Char.toNat).toArray.size = _
  rw [List.size_toArray, List.length_map, show toString (m : Int) = m.repr from rfl, Nat.toList_repr]
  rfl
theorem len_dec_le {n : Int} {k : Nat} (h0 : 0 ≤ n) (hk : 0 < k) : (Str.ofString (toString n)).length ≤ k ↔ n < 10 ^ k := by
  rw [len_dec h0, Nat.length_toDigits_le_iff (by decide) hk]
  obtain ⟨m, rfl⟩ := Int.eq_ofNat_of_zero_le h0
  rw [Int.toNat_natCast]
  exact_mod_cast Iff.rfl
/-! ### shown data -/
structure Sh (n k : Nat) (d : D) : Prop where
  py : d.isPy = true
  sh : d.py.showable = true
  dep : d.py.depth ≤ k
  len : d.py.shown.length ≤ n
  ok : okS d.py.shown
theorem fRepr_sh {n k : Nat} {d : D} {Q : D → Prop} (h : Sh n k d) (hn : n ≤ 16777216) (hk : k ≤ 60) (q : Q (.str d.py.shown)) : fRepr [d] Q :=
  ⟨d, rfl, h.py, h.sh, Nat.le_trans h.dep hk, szl (Nat.le_trans h.len hn), q⟩
theorem fRepr_ne {n k : Nat} {d e : D} {Q : Bool → Prop} (h : Sh n k d) (hn : n ≤ 16777216) (hk : k ≤ 60) (he : d = e) (q : Q false) : fRepr [d] fun a => fRepr [e] fun b => fNe a b Q := by
  subst he
  exact fRepr_sh h hn hk (fRepr_sh h hn hk (fNe_same ((fineN_str (n := 0) h.ok).fine (by decide)) q))
theorem Sh.mono {n k n' k' : Nat} {d : D} (h : Sh n k d) (hn : n ≤ n') (hk : k ≤ k') : Sh n' k' d := ⟨h.py, h.sh, Nat.le_trans h.dep hk, Nat.le_trans h.len hn, h.ok⟩
theorem Sh_int {i : Int} (h : i.natAbs.log2 < 1920) : Sh 1921 0 (.int i) := ⟨rfl, by
  show decide (i.natAbs.log2 < 1920) = true
  exact decide_eq_true h, Nat.zero_le _, by
  show (Str.ofString (toString i)).length ≤ 1921
  have := PySem.int_text_length_le (k := 1920) (by decide) h
  rw [PySem.ofString_length]
  exact this, okS_ofString _⟩
theorem join_okS {ts : List Str} (h : ∀ t, t ∈ ts → okS t) : okS (Str.join ", " ts) := by
  have e := okS_join (z := ", ") (by decide +kernel : PyData.strOk ", " = true) h
  rwa [show Txt.join ", " ts = Str.join ", " ts from StrLaws.glued_eq_join _ _] at e
theorem join_le {n : Nat} : ∀ {ts : List Str}, (∀ t, t ∈ ts → t.length ≤ n) → (Str.join ", " ts).length ≤ ts.length * (n + 2) := by
  intro ts h
  have := StrLaws.join_length_le ", " ts
  have e : (", " : Str).length = 2 := by decide +kernel
  rw [e] at this
  have g : (ts.map (·.length)).sum ≤ ts.length * n := by
    clear this
    induction ts with
    | nil => exact Nat.zero_le _
    | cons t ts ih =>
      rw [List.map_cons, List.sum_cons, List.length_cons, Nat.add_mul]
      have h1 := h t List.mem_cons_self
      have h2 := ih fun x hx => h x (List.mem_cons_of_mem _ hx)
      omega
  rw [Nat.mul_add]
  omega
theorem shown_all : ∀ ds : List D, PyData.shownAll (D.pys ds) = ds.map fun d => d.py.shown
  | [] => rfl
  | d :: ds => by simp only [D.pys, PyData.shownAll, shown_all ds, List.map_cons]
theorem Sh_all {n k : Nat} : ∀ {ds : List D}, (∀ d, d ∈ ds → Sh n k d) → D.arePy ds = true ∧ PyData.showableAll (D.pys ds) = true ∧ PyData.depthAll (D.pys ds) ≤ k
  | [], _ => ⟨rfl, rfl, Nat.zero_le _⟩
  | d :: ds, h => by
    have h1 := h d List.mem_cons_self
    obtain ⟨g1, g2, g4⟩ := Sh_all (ds := ds) fun x hx => h x (List.mem_cons_of_mem _ hx)
    refine ⟨?_, ?_, ?_⟩
    · unfold D.arePy; rw [h1.py, g1]; rfl
    · unfold D.pys PyData.showableAll; rw [h1.sh, g2]; rfl
    · unfold D.pys PyData.depthAll
      have := h1.dep
      omega
theorem textFrom_succ : ∀ (ts : List Str) (k : Nat) (acc : Str), ∃ r : Str, textFrom (k + 1) acc ts = acc ++ r ∧ (∀ n, (∀ t, t ∈ ts → t.length ≤ n) → r.length ≤ ts.length * (n + 2)) ∧ ((∀ t, t ∈ ts → okS t) → okS r)
  | [], k, acc => ⟨Str.empty, by
    show acc = acc ++ Str.empty
    apply Str.ext'
    show acc.cps = acc.cps ++ #[]
    simp, fun _ _ => Nat.zero_le _, fun _ => (by decide +kernel : PyData.strOk Str.empty = true)⟩
  | t :: ts, k, acc => by
    obtain ⟨r, e, h1, h2⟩ := textFrom_succ ts (k + 1) (acc ++ (if k + 1 > 0 then ", " else "" : String) ++ t)
    refine ⟨(", " : Str) ++ t ++ r, ?_, fun n h => ?_, fun h => ?_⟩
    · show textFrom (k + 1 + 1) _ ts = _
      rw [e, if_pos (by omega)]
      apply Str.ext'
      show (acc.cps ++ (", " : Str).cps ++ t.cps) ++ r.cps = acc.cps ++ ((", " : Str).cps ++ t.cps ++ r.cps)
      simp only [Array.append_assoc]
    · have h3 := h1 n fun x hx => h x (List.mem_cons_of_mem _ hx)
      have h4 := h t List.mem_cons_self
      rw [Str.length_append, Str.length_append, show (", " : Str).length = 2 by decide +kernel, List.length_cons, Nat.add_mul]
      omega
    · exact okS_append (okS_append (by decide +kernel : PyData.strOk ", " = true) (h t List.mem_cons_self)) (h2 fun x hx => h x (List.mem_cons_of_mem _ hx))
theorem Sh_list {n k : Nat} {ds : List D} (h : ∀ d, d ∈ ds → Sh n k d) : Sh (ds.length * (n + 2) + 2) (k + 1) (.list ds) := by
  obtain ⟨g1, g2, g4⟩ := Sh_all h
  have tl : ∀ t, t ∈ ds.map (fun d => d.py.shown) → t.length ≤ n := fun t ht => by
    obtain ⟨d, hd, rfl⟩ := List.mem_map.mp ht
    exact (h d hd).len
  have to : ∀ t, t ∈ ds.map (fun d => d.py.shown) → okS t := fun t ht => by
    obtain ⟨d, hd, rfl⟩ := List.mem_map.mp ht
    exact (h d hd).ok
  have es : (D.list ds).py.shown = listText (ds.map fun d => d.py.shown) := by rw [← shown_all]; simp only [D.py, PyData.shown]
  have key : ∀ ts : List Str, ∃ r : Str, listText ts = ("[" : Str) ++ r ++ ("]" : Str) ∧ (∀ n, (∀ t, t ∈ ts → t.length ≤ n) → r.length ≤ ts.length * (n + 2)) ∧ ((∀ t, t ∈ ts → okS t) → okS r) := by
    intro ts
    cases ts with
    | nil => exact ⟨Str.empty, by decide +kernel, fun _ _ => Nat.zero_le _, fun _ => (by decide +kernel : PyData.strOk Str.empty = true)⟩
    | cons t ts =>
      obtain ⟨r, e, h1, h2⟩ := textFrom_succ ts 0 (("[" : Str) ++ ("" : Str) ++ t)
      refine ⟨t ++ r, ?_, fun n h => ?_, fun h => okS_append (h t List.mem_cons_self) (h2 fun x hx => h x (List.mem_cons_of_mem _ hx))⟩
      · show textFrom (0 + 1) _ ts ++ _ = _
        rw [show (if 0 > 0 then ", " else "" : String) = "" from rfl, e]
        apply Str.ext'
        show (((("[" : Str).cps ++ #[]) ++ t.cps) ++ r.cps) ++ ("]" : Str).cps = (("[" : Str).cps ++ (t.cps ++ r.cps)) ++ ("]" : Str).cps
        simp only [Array.append_assoc, Array.append_empty]
      · have h3 := h1 n fun x hx => h x (List.mem_cons_of_mem _ hx)
        have h4 := h t List.mem_cons_self
        rw [Str.length_append, List.length_cons, Nat.add_mul]
        omega
  obtain ⟨r, er, h1, h2⟩ := key (ds.map fun d => d.py.shown)
  refine ⟨?_, ?_, ?_, ?_, ?_⟩
  · unfold D.isPy; exact g1
  · unfold D.py PyData.showable; exact g2
  · unfold D.py PyData.depth; omega
  · rw [es, er, Str.length_append, Str.length_append, show ("[" : Str).length = 1 by decide +kernel, show ("]" : Str).length = 1 by decide +kernel]
    have := h1 n tl
    rw [List.length_map] at this
    omega
  · rw [es, er]
    exact okS_append (okS_append (by decide +kernel : PyData.strOk "[" = true) (h2 to)) (by decide +kernel : PyData.strOk "]" = true)
theorem Sh_tup {n k : Nat} {ds : List D} (h : ∀ d, d ∈ ds → Sh n k d) : Sh (ds.length * (n + 2) + 3) (k + 1) (.tup ds) := by
  obtain ⟨g1, g2, g4⟩ := Sh_all h
  have tl : ∀ t, t ∈ ds.map (fun d => d.py.shown) → t.length ≤ n := fun t ht => by
    obtain ⟨d, hd, rfl⟩ := List.mem_map.mp ht
    exact (h d hd).len
  have to : ∀ t, t ∈ ds.map (fun d => d.py.shown) → okS t := fun t ht => by
    obtain ⟨d, hd, rfl⟩ := List.mem_map.mp ht
    exact (h d hd).ok
  have es : (D.tup ds).py.shown = tupleText (ds.map fun d => d.py.shown) := by rw [← shown_all]; simp only [D.py, PyData.shown]
  refine ⟨?_, ?_, ?_, ?_, ?_⟩
  · unfold D.isPy; exact g1
  · unfold D.py PyData.showable; exact g2
  · unfold D.py PyData.depth; omega
  · rw [es]
    unfold tupleText
    rw [Str.length_append, Str.length_append, show ("(" : Str).length = 1 by decide +kernel]
    have := join_le tl
    rw [List.length_map] at this
    have e : (Str.ofString (if (ds.map fun d => d.py.shown).length == 1 then ",)" else ")")).length ≤ 2 := by split <;> decide +kernel
    omega
  · rw [es]
    unfold tupleText
    refine okS_append (okS_append (by decide +kernel : PyData.strOk "(" = true) (join_okS to)) ?_
    split
    · exact (by decide +kernel : PyData.strOk ",)" = true)
    · exact (by decide +kernel : PyData.strOk ")" = true)
theorem shown_Ks : ∀ kvs : List (Key × D), PyData.shownKv (D.pyKs kvs) = kvs.map fun kv => (keyPy kv.1).shown ++ ": " ++ kv.2.py.shown
  | [] => rfl
  | (k, d) :: r => by simp only [D.pyKs, PyData.shownKv, shown_Ks r, List.map_cons]
/-- a key as it is shown -/
structure ShK (n : Nat) (k : Key) : Prop where
  sh : (keyPy k).showable = true
  len : (keyPy k).shown.length ≤ n
  ok : okS (keyPy k).shown
theorem ShK_int {i : Int} (h : i.natAbs.log2 < 1920) : ShK 1921 (.inl i) := ⟨(Sh_int h).sh, (Sh_int h).len, (Sh_int h).ok⟩
theorem Sh_Ks {n k : Nat} : ∀ {kvs : List (Key × D)}, (∀ kv, kv ∈ kvs → ShK n kv.1 ∧ Sh n k kv.2) → D.areKs kvs = true ∧ PyData.showableKv (D.pyKs kvs) = true ∧ PyData.depthKv (D.pyKs kvs) ≤ k
  | [], _ => ⟨rfl, rfl, Nat.zero_le _⟩
  | (key, d) :: r, h => by
    obtain ⟨a, b⟩ := h (key, d) List.mem_cons_self
    obtain ⟨g1, g2, g3⟩ := Sh_Ks (kvs := r) fun x hx => h x (List.mem_cons_of_mem _ hx)
    refine ⟨?_, ?_, ?_⟩
    · unfold D.areKs; rw [b.py, g1]; rfl
    · unfold D.pyKs PyData.showableKv; rw [a.sh, b.sh, g2]; rfl
    · unfold D.pyKs PyData.depthKv
      have := b.dep
      have e : (keyPy key).depth = 0 := by cases key <;> rfl
      rw [e]
      simp only at this ⊢
      omega
theorem Sh_dict {n k : Nat} {kvs : List (Key × D)} (h : ∀ kv, kv ∈ kvs → ShK n kv.1 ∧ Sh n k kv.2) : Sh (kvs.length * (n + n + 4) + 2) (k + 1) (.dict kvs) := by
  obtain ⟨g1, g2, g3⟩ := Sh_Ks h
  have es : (D.dict kvs).py.shown = dictText (kvs.map fun kv => (keyPy kv.1).shown ++ ": " ++ kv.2.py.shown) := by rw [← shown_Ks]; simp only [D.py, PyData.shown]
  have c2 : (": " : Str).length = 2 := by decide +kernel
  have tl : ∀ t, t ∈ kvs.map (fun kv => (keyPy kv.1).shown ++ ": " ++ kv.2.py.shown) → t.length ≤ n + n + 2 := fun t ht => by
    obtain ⟨d, hd, rfl⟩ := List.mem_map.mp ht
    obtain ⟨a, b⟩ := h d hd
    rw [Str.length_append, Str.length_append, c2]
    have := a.len
    have := b.len
    omega
  have to : ∀ t, t ∈ kvs.map (fun kv => (keyPy kv.1).shown ++ ": " ++ kv.2.py.shown) → okS t := fun t ht => by
    obtain ⟨d, hd, rfl⟩ := List.mem_map.mp ht
    obtain ⟨a, b⟩ := h d hd
    exact okS_append (okS_append a.ok (by decide +kernel : PyData.strOk ": " = true)) b.ok
  refine ⟨?_, ?_, ?_, ?_, ?_⟩
  · unfold D.isPy; exact g1
  · unfold D.py PyData.showable; exact g2
  · unfold D.py PyData.depth; omega
  · rw [es]
    unfold dictText
    rw [Str.length_append, Str.length_append, show ("{" : Str).length = 1 by decide +kernel, show ("}" : Str).length = 1 by decide +kernel]
    have := join_le tl
    rw [List.length_map, show n + n + 2 + 2 = n + n + 4 by omega] at this
    omega
  · rw [es]
    unfold dictText
    exact okS_append (okS_append (by decide +kernel : PyData.strOk "{" = true) (join_okS to)) (by decide +kernel : PyData.strOk "}" = true)
end DL
set_option Elab.async false
set_option linter.all false
set_option maxRecDepth 100000
set_option maxHeartbeats 4000000
/-! DL13: [::-1]; sorted(set(..)); three comparisons in a row; tuple(range(..)). -/
namespace DL
open PySem PySem.Spec PyProof.Rows L2
variable [TabsC]
section
variable {X : Cx} {W : WX} {a b c e e2 o : Expr} {es : List Expr} {ba bb : Bool} {ma mb : TM} {la : LM} {pos p : Pos} {x y : Str} {k : Nat}
/-! ### e[::-1] -/
def mRev (ma : TM) : TM := fun δ Q E => ma δ (fun d => (∃ ds, d = .list ds ∧ Q (.list ds.reverse)) ∨ (∃ ds, d = .tup ds ∧ Q (.tup ds.reverse))) E
end
end DL
set_option Elab.async false
set_option linter.all false
set_option maxRecDepth 100000
set_option maxHeartbeats 4000000
/-! DL14: set(list of ints), sorted(set(..)). -/
namespace DL
open PySem PySem.Spec PyProof.Rows L2
variable [TabsC]
section
variable {P : Program} {w : World} {A : Around} {E : Value → Shared → Prop} {s : Shared}
/-- a set as it is made -/
abbrev bare (w : World) : Obj := { cls := .type "set", dict := none, data := .set #[] 0 (.fresh 0 0 (!w.params.followText "set-order")) }
theorem set_of_list {l : Addr} {items : Array Value} (ns : List Int) {Q : Value → Shared → Prop} (calm : A.handled = none) (isl : s.heap.IsList l items) (iar : IntsAre items.toList ns) (room : ns.length + 1 < scanBound)
    (done : ∀ (g : Heap) (tk c : Nat), SetR w g s.heap.objs.size (fun j => decide (j ∈ ns)) c → c ≤ ns.length → (∀ b o, s.heap.get? b = some o → g.get? b = some o) → Q (.ref s.heap.objs.size) { s with heap := g, toks := tk }) :
    wpAny (model P w) A (call (.type "set") [.ref l]) Q E s := by
  have size : items.size = ns.length := by rw [← Array.length_toList]; exact IntsAre.length iar
  obtain ⟨c, tl, mro⟩ := F.called_set.mro
  have made := F.called_set.made
  have sub := F.called_set.sub
  refine wpAny_call (codeAny_of_tree ?_)
  show wpAny _ _ (callAny (.type "set") _) _ _ _
  refine wpAny_pure ⟨Code.quiet_builtin _ (by decide +kernel), codeAny_builtin F.entry_type_call ?_⟩
  rw [Around.under_plain (weight_type_call_type "set" [.ref l] []) rfl]
  have nt := F.called_set.notType
  have cc := F.called_set.canCreate
  have ct := F.typeCall_set_1 (.ref l)
  repeat (any_goals (first | assumption | wp_step))
  refine codeAny_mono (code_set_led1 (.ref l) (E := E) (Q₁ := fun obj s₁ => obj = .ref s.heap.objs.size ∧ s₁ = { s with heap := s.heap.push (bare w) }) ⟨rfl, rfl⟩) fun r s₁ made1 => ?_
  match r, made1 with
  | .error e, made1 => exact made1
  | .ok (.ret obj), made1 =>
    obtain ⟨rfl, rfl⟩ := made1
    have at0 : (s.heap.push (bare w)).get? s.heap.objs.size = some (bare w) := Heap.get?_push_size _ rfl
    have ty0 : Shared.TypeIs { s with heap := s.heap.push (bare w) } (.ref s.heap.objs.size) "set" := ⟨_, at0, rfl⟩
    have lk0 := F.called_set.init.lookup
    have bd0 := F.called_set.init.bind (.ref s.heap.objs.size)
    repeat (any_goals (first | assumption | wp_step))
    refine codeAny_mono (codeAny_call_builtin (R := wants (fun r s₂ => r = .none ∧ ∃ g tk c, s₂ = { s with heap := g, toks := tk } ∧ SetR w g s.heap.objs.size (fun j => decide (j ∈ ns)) c ∧ c ≤ ns.length ∧ ∀ b o, s.heap.get? b = some o → g.get? b = some o) E) F.called_set.init.plain F.entry_set_init (check_set_init_1 ty0 ?_)) fun r₂ s₂ made2 => ?_
    · obtain ⟨⟨ocls, odict, odata, oslots⟩, ol, hcl, nl, hdl⟩ := isl
      simp only at hcl hdl
      subst hcl; subst hdl
      have ol' : (s.heap.push (bare w)).get? l = some { cls := .type "list", dict := odict, data := .seq items nl, slots := oslots } := Heap.get?_push_of_some _ ol
      have no1 := F.sub_list_set
      have no2 := F.sub_list_frozenset
      have no3 : (Value.type "list" == Value.type "dict") = false := by decide
      have isl' : (s.heap.push (bare w)).IsList l items := ⟨_, ol', rfl, nl, rfl⟩
      unfold Builtin.«set.__init__» noKeywords Builtin.Frozenset.updateFrom
      generalize same : pyIter = PI
      wp_walk
      subst same
      refine wpAny_pyIter_list isl' (wpAny_bind (wpAny_runValue ?_))
      have lt : l < s.heap.objs.size := Heap.lt_size ol
      have sz1 : (s.heap.push (bare w)).objs.size = s.heap.objs.size + 1 := Heap.size_push ..
      have ne1 : l ≠ (s.heap.push (bare w)).objs.size := by rw [sz1]; exact Nat.ne_of_lt (Nat.lt_succ_of_lt lt)
      have nin : s.heap.objs.size ∉ [(s.heap.push (bare w)).objs.size, l] := by
        rw [sz1]
        simp only [List.mem_cons, List.not_mem_nil, or_false, not_or]
        exact And.intro (Nat.ne_of_lt (Nat.lt_succ_self _)) (Nat.ne_of_gt lt)
      have each : ∀ (i : Nat) (v : Value), items[i]? = some v → ∃ k t, ns[i]? = some k ∧ v = .int k t := fun i v hv => by
        have hi : i < ns.length := by rw [← size]; exact (Array.getElem?_eq_some_iff.mp hv).1
        obtain ⟨t, e⟩ := PyProof.Rows.IntsAre.int_at iar i v (by rw [Array.getElem?_toList]; exact hv)
        refine ⟨ns[i], t, List.getElem?_eq_getElem hi, ?_⟩
        rw [e, List.getD_eq_getElem?_getD, List.getElem?_eq_getElem hi] <;> rfl
      have calm3 : A.in1.in1.in1.handled = none := by simp [calm]
      refine set_update_ints ((Walks.list calm3 _ l ne1 items).toS) s.heap.objs.size nin ns size room each (items.size - 0) 0 _ (by omega) (Nat.zero_le _) ⟨⟨_, Heap.get?_push_size _ rfl, rfl, rfl⟩, (isl'.push _)⟩ ?start ?fin
      case start =>
        have at1 : ((s.heap.push (bare w)).push { cls := .type "list_iterator", data := .fields #[.ref l, .int 0 0] }).get? s.heap.objs.size = some (bare w) := Heap.get?_push_of_some _ at0
        exact ⟨0, Nat.le_refl 0, setR_new_at at1⟩
      case fin =>
        intro s' c' mv le R
        obtain ⟨g, gens', drawn', tk', os'⟩ := s'
        have eg : gens' = s.gens := mv.gens
        have ed : drawn' = s.drawn := mv.drawn
        have eo : os' = s.os := mv.os
        subst eg ed eo
        show wpAny _ _ _ _ _ _
        refine wpAny_pure ?_
        show wpAny _ _ (ret Value.none) _ _ _
        rw [size] at le
        refine wpAny_pure ⟨rfl, g, tk', c', rfl, R, le, fun b o e => ?_⟩
        have hb := Heap.lt_size e
        exact mv.heap b o (by
          rw [sz1]
          simp only [List.mem_cons, List.not_mem_nil, or_false, not_or]
          exact And.intro (Nat.ne_of_lt hb) (Nat.ne_of_lt (Nat.lt_succ_of_lt hb))) (Heap.get?_push_of_some _ (Heap.get?_push_of_some _ e))
    · match r₂, made2 with
      | .error e, made2 => exact made2
      | .ok (.ret r), made2 =>
        obtain ⟨rfl, g, tk, c', rfl, R, le, kept⟩ := made2
        repeat (any_goals (first | assumption | wp_step))
        exact done _ _ _ R le kept
end
end DL
set_option Elab.async false
set_option linter.all false
set_option maxRecDepth 100000
set_option maxHeartbeats 4000000
/-! DL15: sorted(set(..)) over data. -/
namespace DL
open PySem PySem.Spec PyProof.Rows L2
variable [TabsC]
section
variable {X : Cx} {W : WX} {a b c e e2 o : Expr} {es : List Expr} {ba bb : Bool} {ma mb mc : TM} {la : LM} {pos p p2 pos2 : Pos} {x y : Str} {k : Nat}
def rSetL (K : PySem.W.Frag) (w : World) : List V → Hp → VK → Prop := fun xs H Q => ∃ (a : Addr) (ns : List Int), xs = [V.ref a] ∧ (SqL K H a (ns.map V.int) ∨ SqT K H a (ns.map V.int)) ∧ ns.length < 64 ∧
  ∀ (p : Addr) (c : Nat), H p = none → c ≤ ns.length → Q (.ref p) (upd H p (SetO w p (fun j => decide (j ∈ ns)) c))
theorem cr_setL (hc : X.calm = true) : CallR X (.type "set") (rSetL X.K X.w) := by
  intro pins s σ H xs us Q I r h
  obtain ⟨a, ns, rfl, hs, hn, q⟩ := h
  rw [Vals.ref1 r]
  have room : ns.length + 1 < scanBound := by unfold scanBound; omega
  rcases hs with hs | hs
  · obtain ⟨its, rv, ht, hz⟩ := I.list hs
    refine set_of_list ns (I.ok.hd hc) ht.isList (intsAre_of rv) room fun g tk c R le kept => ?_
    exact ⟨.ref _, _, I.laid (t' := tk) kept (Nat.le_refl _) (setO_new R), rfl, q _ c (I.hok.fresh (Nat.le_refl _)) le⟩
  · obtain ⟨its, rv, ht, hz⟩ := I.tuple hs
    refine call_set_tupI ns (I.ok.hd hc) (show s.heap.IsTuple a its.toArray from ht) (intsAre_of rv) room fun g tk c R le kept => ?_
    exact ⟨.ref _, _, I.laid (t' := tk) kept (Nat.le_refl _) (setO_new R), rfl, q _ c (I.hok.fresh (Nat.le_refl _)) le⟩
def fSortSet (ds : List D) (Q : D → Prop) : Prop := ∃ ns : List Int, (ds = [.list (ns.map .int)] ∨ ds = [.tup (ns.map .int)]) ∧ ns.length < 64 ∧ ∀ ms : List Int, ms.Pairwise (· < ·) → (∀ k : Int, k ∈ ms ↔ k ∈ ns) → ms.length ≤ ns.length → Q (.list (ms.map .int))
theorem link_sortSet : LinkF X.K (fun vs H Q => rSetL X.K X.w vs H fun p H2 => rSortedSet X.w [p] H2 Q) fSortSet := by
  intro fo ls H vs ds P Q ht r ⟨ns, e, hl, h⟩ q
  have key : ∀ a : Addr, (SqL X.K H a (ns.map V.int) ∨ SqT X.K H a (ns.map V.int)) → rSetL X.K X.w [.ref a] H fun p H2 => rSortedSet X.w [p] H2 Q := fun a ha =>
    ⟨a, ns, rfl, ha, hl, fun p c hp hc => ⟨p, _, c, rfl, upd_same, by omega, fun ms l m1 m2 m3 hl' => by
      have hlp : l ≠ p := fun z => by
        rw [z] at hl'
        rw [upd_same] at hl'
        cases hl'
      have hl0 : H l = none := by rw [upd_ne hlp] at hl'; exact hl'
      exact q _ _ _ (h ms m1 (fun k => by rw [m2 k]; simp) (by omega)) hl0 ((same_upd hp).trans (same_upd hl')) (.l upd_same (by rw [List.length_map, m3, sizeLine_eq]; omega) (Reps.ints ms))⟩⟩
  rcases e with rfl | rfl
  · obtain ⟨v, rfl, rr⟩ := r.one
    obtain ⟨a, xs, rfl, h1, h2, h3⟩ := rr.list
    have ex := h3.of_ints
    subst ex
    exact key a (.inl (.of h1))
  · obtain ⟨v, rfl, rr⟩ := r.one
    obtain ⟨a, xs, rfl, h1, h2, h3⟩ := rr.tup
    have ex := h3.of_ints
    subst ex
    exact key a (.inr h1)
theorem df_sortSet (hc : X.calm = true) (hg : Gl X "sorted") (hm : X.mg "sorted" = none) (hv : bootBuiltins "sorted" = some (.builtin "sorted")) (hg2 : Gl X "set") (hm2 : X.mg "set" = none) (hv2 : bootBuiltins "set" = some (.type "set")) (ha : DA X W [e] ba la)
    (he : starEach [e] X.env = [(false, eval e X.env)] := by rfl) (he2 : starEach [.Call (.Name "set" p2) [e] [] pos2] X.env = [(false, eval (.Call (.Name "set" p2) [e] [] pos2) X.env)] := by rfl) :
    DF X W (.Call (.Name "sorted" p) [.Call (.Name "set" p2) [e] [] pos2] [] pos) (mB fSortSet la) :=
  PE.imp (pe_callB (cr_sortedSet hc) hg hm hv (pa_cons (pe_callTy (cr_setL hc) hg2 hm2 hv2 ha (by decide) (by decide) he (by rfl)) pa_nil he2) (by decide) (by decide) he2 (by rfl)) fun _ _ _ h => link_f (link_sortSet) h
/-! ### a op b op c op d -/
def mChain3 (f g h : D → D → (Bool → Prop) → Prop) (ma mb mc md : TM) : TM := fun δ Q E => ma δ (fun x => mb δ (fun y => f x y fun c => if c = true then mc δ (fun z => g y z fun c' => if c' = true then md δ (fun v => h z v fun c => Q (.bool c)) E else Q (.bool false)) E else Q (.bool false)) E) E
/-! ### tuple(range(..)) -/
def mTupRg1 (ma : TM) : TM := fun δ Q E => ma δ (fun d => ∃ j : Int, d = .int j ∧ RgOk 0 j ∧ Q (.tup (rangeD 0 j.toNat))) E
def mTupRg2 (ma mb : TM) : TM := fun δ Q E => ma δ (fun d => mb δ (fun d' => ∃ i j : Int, d = .int i ∧ d' = .int j ∧ RgOk i j ∧ Q (.tup (rangeD i (j - i).toNat))) E) E
end
end DL
set_option Elab.async false
set_option linter.all false
set_option maxRecDepth 100000
set_option maxHeartbeats 4000000
/-! DL16: neighbours in a row of ints; loops that give back early. -/
namespace DL
open PySem PySem.Spec PyProof.Rows L2
variable [TabsC]
/-- the neighbours -/
def nb : List Int → List (Int × Int)
  | x :: y :: r => (x, y) :: nb (y :: r)
  | _ => []
def pairD (p : Int × Int) : D := .tup [.int p.1, .int p.2]
theorem nb_get : ∀ (ns : List Int), nb ns = (List.range (ns.length - 1)).map fun i => (ns.getD i 0, ns.getD (i + 1) 0)
  | [] => rfl
  | [x] => rfl
  | x :: y :: r => by
    have ih := nb_get (y :: r)
    simp only [nb]
    rw [ih]
    simp only [List.length_cons, Nat.add_sub_cancel]
    rw [List.range_succ_eq_map, List.map_cons, List.map_map]
    rfl
theorem atI_last {ns : List Int} (h : ns ≠ []) : atI (ns.map D.int) (-1) = some (.int (ns.getLastD 0)) := by
  unfold atI
  have hl : 0 < ns.length := List.length_pos_iff.mpr h
  rw [List.length_map]
  have : ∀ (xs : List Int), xs ≠ [] → (xs.map D.int)[xs.length - 1]? = some (.int (xs.getLastD 0)) := fun xs hx => by
    rw [List.getElem?_map, ← List.getLast?_eq_getElem?, List.getLastD_eq_getLast?, List.getLast?_eq_some_getLast hx]
    rfl
  have t := this ns h
  rw [show ixN ns.length (-1) = some (ns.length - 1) from by
    unfold ixN
    rw [if_neg (by decide), if_pos (by omega)]
    congr 1
    omega]
  exact t
def gapL (ns : List Int) : Option (Int × Int) := (nb ns).find? fun p => decide (p.2 % p.1 ≠ 0)
def ascL (ns : List Int) : Bool := (nb ns).all fun p => decide (p.1 < p.2)
theorem Sh_ints {k : Nat} {ns : List Int} (h : ∀ i, i ∈ ns → i.natAbs.log2 < 1920) : Sh (ns.length * 1923 + 3) 1 (.tup (ns.map .int)) := by
  have := Sh_tup (n := 1921) (k := 0) (ds := ns.map .int) fun d hd => by
    obtain ⟨i, hi, rfl⟩ := List.mem_map.mp hd
    exact Sh_int (h i hi)
  rwa [List.length_map] at this
theorem log2_ok {n k : Nat} (hk : 0 < k) (h : n < 2 ^ k) : n.log2 < k := by
  by_cases h0 : n = 0
  · subst h0; exact hk
  · exact (Nat.log2_lt h0).mpr h
theorem log2_lim {i : Int} (h : -(10 ^ 240) < i) (h' : i < 10 ^ 240) : i.natAbs.log2 < 1000 := by
  refine log2_ok (by decide) ?_
  have b : (10 : Int) ^ 240 < 2 ^ 1000 := by decide +kernel
  have : ((i.natAbs : Nat) : Int) < 2 ^ 1000 := by
    generalize (10 : Int) ^ 240 = A at *
    generalize (2 : Int) ^ 1000 = B at *
    omega
  exact_mod_cast this
section
variable {i j : Int} {p q : Bool} {R : Bool → Prop}
theorem e_fEq_i : fEq (.int i) (.int j) R = R (decide (i = j)) := propext ⟨fun h => by have := h.2.2; rw [eqD_int] at this; exact this, fun h => ⟨fineN_int.fine (n := 0) (by decide), fineN_int.fine (n := 0) (by decide), by rw [eqD_int]; exact h⟩⟩
theorem e_fNe_i : fNe (.int i) (.int j) R = R (!decide (i = j)) := propext ⟨fun h => by have := h.2.2; rw [eqD_int] at this; exact this, fun h => ⟨fineN_int.fine (n := 0) (by decide), fineN_int.fine (n := 0) (by decide), by rw [eqD_int]; exact h⟩⟩
theorem beq_dec (p q : Bool) : (p == q) = decide (p = q) := by cases p <;> cases q <;> rfl
theorem e_fEq_b : fEq (.bool p) (.bool q) R = R (decide (p = q)) := propext ⟨fun h => by have := h.2.2; rw [eqD_bool, beq_dec] at this; exact this, fun h => ⟨fineN_bool.fine (n := 0) (by decide), fineN_bool.fine (n := 0) (by decide), by rw [eqD_bool, beq_dec]; exact h⟩⟩
theorem e_fNe_b : fNe (.bool p) (.bool q) R = R (!decide (p = q)) := propext ⟨fun h => by have := h.2.2; rw [eqD_bool, beq_dec] at this; exact this, fun h => ⟨fineN_bool.fine (n := 0) (by decide), fineN_bool.fine (n := 0) (by decide), by rw [eqD_bool, beq_dec]; exact h⟩⟩
end
theorem ex2 {α β : Type} {a : α} {b : β} {P : α → β → Prop} : (∃ x y, (a = x ∧ b = y) ∧ P x y) = P a b := propext ⟨fun ⟨_, _, ⟨e, e'⟩, h⟩ => by subst e e'; exact h, fun h => ⟨a, b, ⟨rfl, rfl⟩, h⟩⟩
theorem nb_append : ∀ {ns : List Int} {z : Int}, ns ≠ [] → nb (ns ++ [z]) = nb ns ++ [(ns.getLastD 0, z)]
  | [x], z, _ => rfl
  | x :: y :: r, z, _ => by
    have ih := nb_append (ns := y :: r) (z := z) (by simp)
    show (x, y) :: nb ((y :: r) ++ [z]) = (x, y) :: nb (y :: r) ++ _
    rw [ih]
    rfl
theorem asc_append {ns : List Int} {z : Int} (h0 : ns ≠ []) (h : ascL ns = true) (hz : ns.getLastD 0 < z) : ascL (ns ++ [z]) = true := by
  unfold ascL at *
  rw [nb_append h0, List.all_append, h]
  simpa using hz
theorem gap_append {ns : List Int} {z : Int} (h0 : ns ≠ []) (h : gapL ns = none) (hz : z % ns.getLastD 0 = 0) : gapL (ns ++ [z]) = none := by
  unfold gapL at *
  rw [nb_append h0, List.find?_append, h]
  rw [Option.none_or, List.find?_cons_of_neg (by intro c; exact of_decide_eq_true c hz)]
  rfl
theorem last_mem {ns : List Int} (h : ns ≠ []) : ns.getLastD 0 ∈ ns := by
  rw [List.getLastD_eq_getLast?, List.getLast?_eq_some_getLast h]
  exact List.getLast_mem h
theorem asc_pair {ns : List Int} (h : ns.Pairwise (· < ·)) : ascL ns = true := by
  unfold ascL
  rw [nb_get, List.all_eq_true]
  intro p hp
  obtain ⟨i, hi, rfl⟩ := List.mem_map.mp hp
  have hi := List.mem_range.mp hi
  have h1 : i + 1 < ns.length := by omega
  have := List.pairwise_iff_getElem.mp h i (i + 1) (by omega) h1 (by omega)
  simp only [decide_eq_true_eq, List.getD_eq_getElem?_getD, List.getElem?_eq_getElem h1, List.getElem?_eq_getElem (show i < ns.length by omega), Option.getD_some]
  exact this
theorem e_nn : isNoneD .none = true := rfl
theorem e_nt {xs : List D} : isNoneD (.tup xs) = false := rfl
theorem e_nl {xs : List D} : isNoneD (.list xs) = false := rfl
theorem e_ni {i : Int} : isNoneD (.int i) = false := rfl
end DL
set_option Elab.async false
set_option linter.all false
set_option maxRecDepth 100000
set_option maxHeartbeats 4000000
/-! DL17: zip of a tuple and a list. -/
namespace DL
open PySem PySem.Spec PyProof.Rows L2
variable [TabsC]
section
variable {X : Cx} {W : WX} {e e2 : Expr} {ba : Bool} {la : LM} {p pos : Pos}
def mZipM (la : LM) : LM := fun δ P E => la δ (fun ds => ∃ xs ys, ds = [.tup xs, .list ys] ∧ P (zipD xs ys)) E
/-! ### < of tuples of ints -/
end
end DL
set_option Elab.async false
set_option linter.all false
set_option maxRecDepth 100000
set_option maxHeartbeats 4000000
/-! DL18: figures over a chain, the greatest size first. -/
namespace DL
open PySem PySem.Spec PyProof.Rows L2
variable [TabsC]
theorem mul_lim {i j : Int} (h1 : -(10 ^ 240) < i) (h2 : i < 10 ^ 240) (h3 : -(10 ^ 240) < j) (h4 : j < 10 ^ 240) : IntMulOk i j := CMulW.ok (by
  have a := log2_lim h1 h2
  have b := log2_lim h3 h4
  unfold CMulW
  omega)
theorem atI_0 {x : D} {r : List D} : atI (x :: r) 0 = some x := by
  unfold atI ixN
  rw [if_pos (by decide), if_pos (by rw [List.length_cons]; omega)]
  rfl
theorem atI_1 {x y : D} {r : List D} : atI (x :: y :: r) 1 = some y := by
  unfold atI ixN
  rw [if_pos (by decide), if_pos (by rw [List.length_cons, List.length_cons]; omega)]
  rfl
theorem cut_01 {x : D} {r : List D} : cutL (x :: r) none (some 1) = [x] := by
  unfold cutL
  rw [HT.sIx_none, show HT.sIx (x :: r).length (x :: r).length (some 1) = min 1 (x :: r).length from HT.sIx_nat _ _ 1, show min 1 (x :: r).length = 1 by rw [List.length_cons]; omega]
  rfl
/-- a comprehension whose items are drawn, each by its turn -/
theorem compL_each {g : GM} {mt : BM} {me : TM} {δ0 : List DV} (p : D → D → Prop) : ∀ {ds : List D}, (∀ d, d ∈ ds → ∀ (R : D → Prop) (S : Prop), (∀ y, p d y → R y) → g d δ0 fun δ' => mt δ' (fun b => if b = true then me δ' R NoE else S) NoE) →
    ∀ {acc : List D} {Q : D → Prop}, (∀ ys : List D, ys.length = ds.length → (∀ (i : Nat) (d y : D), ds[i]? = some d → ys[i]? = some y → p d y) → Q (.list (acc ++ ys))) → compL g mt me δ0 ds acc Q := by
  intro ds
  induction ds with
  | nil =>
    intro _ acc Q q
    have := q [] rfl (fun i d y e => by cases e)
    simpa [compL] using this
  | cons d ds ih =>
    intro h acc Q q
    unfold compL
    refine h d List.mem_cons_self _ _ fun y hy => ?_
    refine ih (fun d' h' => h d' (List.mem_cons_of_mem _ h')) fun ys hl hp => ?_
    have := q (y :: ys) (by rw [List.length_cons, List.length_cons, hl]) (fun i d' y' e1 e2 => by
      cases i with
      | zero => cases e1; cases e2; exact hy
      | succ i => exact hp i d' y' e1 e2)
    simpa using this
theorem atI_end {xs : List D} {y : D} : atI (xs ++ [y]) (-1) = some y := by
  unfold atI ixN
  rw [if_neg (by decide), if_pos (by rw [List.length_append, List.length_singleton]; omega)]
  show (xs ++ [y])[((-1 : Int) + ((xs ++ [y]).length : Int)).toNat]? = some y
  rw [show ((-1 : Int) + ((xs ++ [y]).length : Int)).toNat = xs.length by rw [List.length_append, List.length_singleton]; omega, List.getElem?_append_right (Nat.le_refl _), Nat.sub_self]
  rfl
end DL
set_option Elab.async false
set_option linter.all false
set_option maxRecDepth 100000
set_option maxHeartbeats 4000000
/-! DL19: stars in displays; max(.., key=len) of tuples, with a default or without. -/
namespace DL
open PySem PySem.Spec PyProof.Rows L2
variable [TabsC]
section
variable {X : Cx} {W : WX} {a b c e e2 o : Expr} {es : List Expr} {ba bb : Bool} {ma mb mc : TM} {la : LM} {pos p p2 pos2 : Pos} {x y : Str} {k : Nat}
/-! ### *e -/
def mStar (ma : TM) (la : LM) : LM := fun δ P E => ma δ (fun d => ∃ xs, (d = .tup xs ∨ d = .list xs) ∧ la δ (fun ds => P (xs ++ ds)) E) E
theorem RVs.append {K : PySem.W.Frag} {fo ls : List Addr} {H : Hp} {b : Bool} : ∀ {vs ws : List V} {ds es : List D}, RVs K fo ls H b vs ds → RVs K fo ls H b ws es → RVs K fo ls H b (vs ++ ws) (ds ++ es)
  | _, _, _, _, .nil, h => h
  | _, _, _, _, .cons r t, h => .cons r (RVs.append t h)
/-! ### max by length -/
/-! over data -/
def LongestD (ts : List (List D)) (i : Nat) : Prop := i < ts.length ∧ (∀ j, j < ts.length → (ts.getD j []).length ≤ (ts.getD i []).length) ∧ ∀ j, j < i → (ts.getD j []).length < (ts.getD i []).length
def mMaxLenD (la : LM) (md : TM) : TM := fun δ Q E => la δ (fun ds => md δ (fun d => ∃ ts : List (List D), ds = [.list (ts.map .tup)] ∧ (ts = [] → Q d) ∧ ∀ i, LongestD ts i → Q (.tup (ts.getD i []))) E) E
end
end DL
set_option Elab.async false
set_option linter.all false
set_option maxRecDepth 100000
set_option maxHeartbeats 4000000
/-! DL20: dicts: d[k] = e, d[k], comprehensions over a dict's keys. -/
namespace DL
open PySem PySem.Spec PyProof.Rows L2
variable [TabsC]
theorem RepKs.len {K : PySem.W.Frag} {H : Hp} : ∀ {vs : List (Key × V)} {ds : List (Key × D)}, RepKs K H vs ds → vs.length = ds.length
  | _, _, .nil => rfl
  | _, _, .cons _ r => by rw [List.length_cons, List.length_cons, RepKs.len r]
theorem kV_of {K : PySem.W.Frag} {fo ls : List Addr} {H : Hp} {b : Bool} {v : V} {k : Key} (r : RV K fo ls H b v (keyD k)) : v = kV k := by
  cases k with
  | inl i => exact r.isInt
  | inr z => exact r.isStr
theorem putK_len (kvs : List (Key × V)) (k : Key) (v : V) : (putK kvs k v).length ≤ kvs.length + 1 := by
  unfold putK
  split
  · rw [List.length_map]; omega
  · rw [List.length_append, List.length_singleton]; omega
section
variable {X : Cx} {W : WX} {a b c e e2 o : Expr} {es : List Expr} {ba bb : Bool} {ma mb mc mk : TM} {la : LM} {pos p p2 pos2 : Pos} {x y : Str} {k : Nat}
/-! ### d[k] = e -/
def sPut (i : Nat) (mk mv : TM) : SM := fun δ κ => mv δ (fun v => ∃ ds, δ[i]? = some (.m (.dict ds)) ∧ mk δ (fun kd => ∃ key : Key, kd = keyD key ∧ ds.length < sizeLine ∧ κ.nx (δ.set i (.m (.dict (putD ds key v))))) (κ.er δ)) (κ.er δ)
theorem ds_put (i : Nat) {ie : Expr} {p1 : Pos} (hu : X.A.units + 1 < cLine) (ho : PE X (.Name x p) (tVar i)) (hi : DE X W ie bb mk) (hv : DE X W e false ma) (hs : swapsWith e (some (.Subscript (.Name x p) ie p1)) pos.line X.env = pure false := by rfl) :
    DS X W (.Assign [.Subscript (.Name x p) ie p1] e pos) (sPut i mk ma) :=
  PS.imp (ps_dput hu ho hi hv hs) fun D σ H ⟨F, own, δ, κ, E, h, L⟩ => by
    refine ⟨F, own, δ, _, _, L.at E, h, fun d v H1 ⟨ds, hd, m1⟩ s1 r1 => ?_⟩
    have E1 := E.grow s1
    obtain ⟨a, kvs, e1, ha, h1, h2, h3⟩ := E1.dic hd
    refine ⟨_, e1, F, own, δ, _, _, (L.at E).on s1, m1, fun kd kv H2 ⟨key, ek, hz, m2⟩ s2 r2 => ?_⟩
    subst ek
    have ekv := kV_of r2
    subst ekv
    have h1' := s2 _ _ h1
    have hz' : kvs.length < sizeLine := by rw [h3.len]; exact hz
    refine ⟨a, _, rfl, .inl ⟨kvs, key, h1', rfl, hz', rfl⟩, L.nx _ _ own _ ((E1.grow s2).put hd e1 h1' (.md (E.sep a ha) upd_same ?_ ?_)) m2⟩
    · have := putK_len kvs key v
      omega
    · rw [sub_upd (List.mem_append_right _ ha)]
      exact (h3.mono (sub_same s2)).put (r1.clean.mono (sub_same s2))
/-! ### d[k] -/
def mDGet (ma mk : TM) : TM := fun δ Q E => ma δ (fun d => mk δ (fun kd => ∃ ds : List (Key × D), d = .dict ds ∧ ∃ key : Key, kd = keyD key ∧ ∃ v : D, valD ds key = some v ∧ Q v) E) E
end
/-! ### d.get(k), d.get(k, e) -/
def mDGet2 (ma mk mv : TM) : TM := fun δ Q E => ma δ (fun d => ∃ ds : List (Key × D), d = .dict ds ∧ mk δ (fun kd => mv δ (fun v => ∃ key : Key, kd = keyD key ∧ Q ((valD ds key).getD v)) E) E) E
theorem de_dget2 {apos : Pos} (hu : X.A.units + 1 < cLine) (ho : DE X W o ba ma) (hi : DE X W e bb mk) (hv : DE X W e2 false mc) (m : M2 X o "get" apos e e2 pos) : DE X W (.Call (.Attribute o "get" apos) [e, e2] [] pos) false (mDGet2 ma mk mc) :=
  PE.imp (pe_dget2 hu ho hi hv m) fun σ H Q ⟨F, own, δ, P, EK, A, mm, q⟩ => ⟨F, own, δ, _, EK, A, mm, fun d v H1 ⟨ds, ed, m1⟩ s1 r1 => by
    subst ed
    obtain ⟨a, kvs, rfl, h1, h2, h3⟩ := r1.dict
    refine ⟨a, rfl, .inl ⟨kvs, h1⟩, F, own, δ, _, EK, A.on s1, m1, fun kd kv H2 m2 s2 r2 => ⟨F, own, δ, _, EK, A.on (s1.trans s2), m2, fun vd vv H3 ⟨key, ek, m3⟩ s3 r3 => ?_⟩⟩
    subst ek
    have ekv := kV_of r2
    subst ekv
    have h1' := rdMono (s2.trans s3).ob h1
    have h3' := h3.mono (sub_same (s2.trans s3).ob)
    refine ⟨valV kvs key, .inl ⟨kvs, key, h1', rfl, rfl⟩, ?_⟩
    cases e : valD ds key with
    | some w =>
      rw [e] at m3
      obtain ⟨u, hu', ru⟩ := h3'.val key e
      rw [hu']
      exact q _ _ H3 m3 ((s1.trans s2).trans s3) (.cl ru)
    | none =>
      rw [e] at m3
      rw [h3'.none key e]
      exact q _ _ H3 m3 ((s1.trans s2).trans s3) r3⟩
/-! ### the lock -/
section
variable {X : Cx} {W : WX} {pos p : Pos} {x : Str}
/-- [elt for tg in d if ..], d one's own dict; what comes are ints -/
def mCompK (i : Nat) (vs : List Nat) (g : GM) (mt : BM) (me : TM) : TM := fun δ Q E => ∃ ds : List (Key × D), δ[i]? = some (.m (.dict ds)) ∧ compL g mt me (wipeD (δ.set i (.v (.dict ds))) vs) (ds.map fun kv => keyD kv.1) [] (fun d => ∃ ns : List Int, d = .list (ns.map .int) ∧ Q d)
end
/-! ### walks over a dict that stays -/
theorem RepKs.get {K : PySem.W.Frag} {H : Hp} : ∀ {vs : List (Key × V)} {ds : List (Key × D)} {i : Nat} {k : Key} {v : V}, RepKs K H vs ds → vs[i]? = some (k, v) → ∃ d, ds[i]? = some (k, d) ∧ Rep K H v d
  | _, _, _, _, _, .nil, e => by simp at e
  | _, _, 0, _, _, .cons r _, e => by cases e; exact ⟨_, rfl, r⟩
  | _, _, i + 1, _, _, .cons _ t, e => by
    obtain ⟨d, h1, h2⟩ := RepKs.get (i := i) t (by simpa using e)
    exact ⟨d, by simpa using h1, h2⟩
theorem rep_key {K : PySem.W.Frag} {H : Hp} (k : Key) : Rep K H (kV k) (keyD k) := by
  cases k with
  | inl i => exact .int i
  | inr z => exact .str z
def pairKD (kv : Key × D) : D := .tup [keyD kv.1, kv.2]
def mKeys (ma : TM) : LM := fun δ P E => ma δ (fun d => ∃ ds : List (Key × D), d = .dict ds ∧ P (ds.map fun kv => keyD kv.1)) E
def mVals (ma : TM) : LM := fun δ P E => ma δ (fun d => ∃ ds : List (Key × D), d = .dict ds ∧ P (ds.map (·.2))) E
def mItems (ma : TM) : LM := fun δ P E => ma δ (fun d => ∃ ds : List (Key × D), d = .dict ds ∧ P (ds.map pairKD)) E
end DL
set_option Elab.async false
set_option linter.all false
set_option maxRecDepth 100000
set_option maxHeartbeats 4000000
/-! DL21: instances of own classes: fields, methods, properties, making. -/
namespace DL
open PySem PySem.Spec PyProof.Rows L2
variable [TabsC]
theorem RV.obj {K : PySem.W.Frag} {fo ls : List Addr} {H : Hp} {b : Bool} {v : V} {n : Str} {ds : List (Str × D)} (r : RV K fo ls H b v (.obj n ds)) : ∃ C a dx fs, PySem.W.nsIn K mainGlobals n = some (some (.ref C)) ∧ v = .ref a ∧ H a = some (.ins C dx fs) ∧ RepFs K (sub H ls) fs ds := by
  cases r with
  | cl r =>
    cases r with
    | obj c h r => exact ⟨_, _, _, _, c, rfl, sub_le _ _ h, r⟩
  | mo _ c h r => exact ⟨_, _, _, _, c, rfl, h, r⟩
theorem RepFs.get {K : PySem.W.Frag} {H : Hp} {f : Str} : ∀ {vs : List (Str × V)} {ds : List (Str × D)} {d : D}, RepFs K H vs ds → ds.lookup f = some d → ∃ v, vs.lookup f = some v ∧ Rep K H v d
  | _, _, _, .nil, e => by cases e
  | _, _, _, @RepFs.cons _ _ g v vs d ds h r, e => by
    rw [List.lookup_cons] at e ⊢
    cases hb : f == g with
    | true =>
      rw [hb] at e
      cases e
      exact ⟨v, rfl, h⟩
    | false =>
      rw [hb] at e
      exact RepFs.get r e
theorem RepFs.miss {K : PySem.W.Frag} {H : Hp} {f : Str} : ∀ {vs : List (Str × V)} {ds : List (Str × D)}, RepFs K H vs ds → ds.lookup f = none → vs.lookup f = none
  | _, _, .nil, _ => rfl
  | _, _, @RepFs.cons _ _ g v vs d ds h r, e => by
    rw [List.lookup_cons] at e ⊢
    cases hb : f == g with
    | true => rw [hb] at e; cases e
    | false =>
      rw [hb] at e
      exact RepFs.miss r e
theorem RepFs.len {K : PySem.W.Frag} {H : Hp} : ∀ {vs : List (Str × V)} {ds : List (Str × D)}, RepFs K H vs ds → vs.length = ds.length
  | _, _, .nil => rfl
  | _, _, .cons _ r => by rw [List.length_cons, List.length_cons, RepFs.len r]
def putFD (f : Str) (y : D) : List (Str × D) → List (Str × D)
  | [] => [(f, y)]
  | (g, x) :: r => if g = f then (g, y) :: r else (g, x) :: putFD f y r
theorem RepFs.put {K : PySem.W.Frag} {H : Hp} {f : Str} {y : V} {d : D} (h : Rep K H y d) : ∀ {vs : List (Str × V)} {ds : List (Str × D)}, RepFs K H vs ds → RepFs K H (putF f y vs) (putFD f d ds)
  | _, _, .nil => .cons h .nil
  | _, _, @RepFs.cons _ _ g v vs d' ds h' r => by
    unfold putF putFD
    by_cases e : g = f
    · rw [if_pos e, if_pos e]; exact .cons h r
    · rw [if_neg e, if_neg e]; exact .cons h' (RepFs.put h r)
section
variable {X : Cx} {W : WX} {a b c e e2 o : Expr} {es : List Expr} {ba bb : Bool} {ma mb mo : TM} {la : LM} {pos p apos : Pos} {n f mn x : Str} {k : Nat} {C g q0 : Addr} {m : FM} {mm : MM}
/-! ### e.f -/
def mFld (n : Str) (ma : TM) (f : Str) : TM := fun δ Q E => ma δ (fun d => ∃ ds : List (Str × D), d = .obj n ds ∧ ∃ v : D, ds.lookup f = some v ∧ Q v) E
theorem de_fld (hC : PySem.W.nsIn X.K mainGlobals n = some (some (.ref C))) (cl : Cls X.K C) (na : NoAttr X.K C f) (he : DE X W e ba ma) (hb : attributeBase e f X.env (eval e X.env) = eval e X.env := by rfl) : DE X W (.Attribute e f pos) false (mFld n ma f) :=
  PE.imp (pe_fld he hb) fun σ H Q ⟨F, own, δ, P, EK, A, m, q⟩ => ⟨F, own, δ, _, EK, A, m, fun d v H1 ⟨ds, ed, w, hl, m1⟩ s1 r1 => by
    subst ed
    obtain ⟨C', a, dx, fs, hC', rfl, h1, h2⟩ := r1.obj
    rw [hC] at hC'
    cases hC'
    obtain ⟨u, hu, ru⟩ := h2.get hl
    exact ⟨a, C, dx, fs, u, rfl, h1, cl, na, hu, q _ _ H1 m1 s1 (.cl ru)⟩⟩
/-- self.f of a self that is lent -/
def mSFld (i : Nat) (n f : Str) : TM := fun δ Q _ => ∃ ds : List (Str × D), δ[i]? = some (.s (.obj n ds)) ∧ ∃ v : D, ds.lookup f = some v ∧ Q v
/-! ### o.f = e, o one's own or lent -/
def sFld (i : Nat) (n f : Str) (ma : TM) : SM := fun δ k => ma δ (fun v => ∃ ds : List (Str × D), ds.length < 900 ∧ ((δ[i]? = some (.s (.obj n ds)) ∧ k.nx (δ.set i (.s (.obj n (putFD f v ds))))) ∨ (δ[i]? = some (.m (.obj n ds)) ∧ k.nx (δ.set i (.m (.obj n (putFD f v ds))))))) (k.er δ)
theorem own_obj {K : PySem.W.Frag} {F : Fm} {own : List Addr} {σ : L2.St} {δ : List DV} {H : Hp} (E : EnvD K F own σ δ H) {i : Nat} {n : Str} {ds : List (Str × D)} (h : δ[i]? = some (.m (.obj n ds))) : ∃ C a dx fs, PySem.W.nsIn K mainGlobals n = some (some (.ref C)) ∧ σ[i]? = some (some (.ref a)) ∧ a ∈ own ∧ H a = some (.ins C dx fs) ∧ RepFs K (sub H (F.ls0 ++ own)) fs ds := by
  obtain ⟨s, e1, a, rfl, ha, r⟩ := E.slot i _ h
  cases r with
  | cl r =>
    cases r with
    | obj c h1 r => rw [sub_in (List.mem_append_right _ ha)] at h1; cases h1
  | mo _ c h1 r => exact ⟨_, a, _, _, c, e1, ha, h1, r⟩
theorem ds_fld (i : Nat) {value : Expr} {pos' : Pos} (hC : PySem.W.nsIn X.K mainGlobals n = some (some (.ref C))) (cl : Cls X.K C) (na : NoAttr X.K C f) (hv : PE X (.Name x p) (tVar i)) (he : DE X W value false ma) (hs : swapsWith value (some (.Attribute (.Name x p) f pos')) pos.line X.env = pure false := by rfl) :
    DS X W (.Assign [.Attribute (.Name x p) f pos'] value pos) (sFld i n f ma) :=
  PS.imp (ps_fld hv he hs) fun D σ H ⟨F, own, δ, κ, E, h, L⟩ => ⟨F, own, δ, _, _, L.at E, h, fun v y H1 ⟨ds, hl, m1⟩ s1 r1 => by
    have E1 := E.grow s1
    rcases m1 with ⟨e, m1⟩ | ⟨e, m1⟩
    · obtain ⟨s, hs, a, C', dx, n', fs, ds', rfl, ha, ed, hC', h1, h2⟩ := E1.slot i _ e
      cases ed
      rw [hC] at hC'
      cases hC'
      have hin : a ∈ F.ls0 ++ own := List.mem_append_left _ ha
      refine ⟨_, hs, a, C, dx, fs, rfl, h1, cl, na, by rw [h2.len]; omega, L.nx σ _ own _ (E1.turnS e hs h1 same_put hC upd_same ?_) m1⟩
      rw [sub_upd hin]
      exact h2.put r1.clean
    · obtain ⟨C', a, dx, fs, hC', hs, ha, h1, h2⟩ := own_obj E1 e
      rw [hC] at hC'
      cases hC'
      refine ⟨_, hs, a, C, dx, fs, rfl, h1, cl, na, by rw [h2.len]; omega, L.nx σ _ own _ (E1.put e hs h1 (.mo (E1.sep a ha) hC upd_same ?_)) m1⟩
      rw [sub_upd (List.mem_append_right _ ha)]
      exact h2.put r1.clean⟩
/-! ### o.m(e, ..), o plain -/
def mMeth (n mn : Str) (m : FM) (mo : TM) (la : LM) : TM := fun δ Q E => mo δ (fun d => ∃ fs : List (Str × D), d = .obj n fs ∧ fs.lookup mn = none ∧ la δ (fun ds => m (d :: ds) Q E) E) E
theorem de_meth {pl : Sem Bool} (hC : PySem.W.nsIn X.K mainGlobals n = some (some (.ref C))) (cl : Cls X.K C) (F : FnD X.prog X.w X.K X.mg X.base k g m) (hm : Meth X.K C mn g) (hG : GdOk X.A X.base) (hr : Room k X.A) (tk : Takes X W)
    (ho : DE X W o ba mo) (hcl : ba = false) (ha : DA X W (e :: es) false la) (hst : starEach (e :: es) X.env = (false, eval e X.env) :: starEach es X.env := by rfl) (hpl : (backTo pos (starEach es X.env)).any (·.1) = false := by rfl)
    (ht : eval (.Call (.Attribute o mn apos) (e :: es) [] pos) X.env = (do
      let ov ← eval o X.env
      standAt apos.atName
      let (f, first) ← holding [ov] (getMethod ov mn pl)
      callWith pos f first (backTo pos (starEach (e :: es) X.env)) (backToKw pos (keywordEach [] X.env))) := by rfl) : DE X W (.Call (.Attribute o mn apos) (e :: es) [] pos) false (mMeth n mn m mo la) := by
  subst hcl
  refine ⟨fun pins s σ H Q I ⟨FF, own, δ, P, EK, A, mm, q⟩ => ?_⟩
  refine PySem.W.methodCall_KW (pl := pl) (thn (ho.run pins s σ H (fun x H1 => ∃ fs : List (Str × D), fs.lookup mn = none ∧ (la δ (fun ds => m (.obj n fs :: ds) P EK) EK) ∧ Same H H1 ∧ Rep X.K (sub H1 (FF.ls0 ++ own)) x (.obj n fs)) I ⟨FF, own, δ, _, EK, A, mm, fun d v H1 ⟨fs, ed, hl0, m1⟩ s1 r1 => by
    subst ed
    exact ⟨fs, hl0, m1, s1, r1.clean⟩⟩) fun u s1 ⟨x, H1, I1, rx, fs, hl0, m1, s01, ro⟩ => ?_) ht
  obtain ⟨C', a, dx, vs, hC', rfl, h1, h2⟩ := (RV.cl ro : RV X.K FF.ls0 _ H1 false x _).obj
  rw [hC] at hC'
  cases hC'
  obtain rfl : u = Value.ref a := rx
  refine getmeth_ok I1 h1 cl hm (h2.miss hl0) ?_
  have A0 := A.on s01
  refine PySem.W.callWith_K (first := [.ref a]) (h₀ := X.base) I1.ok.mod.kin hm.kp (thn (ha.run pos pins s1 σ H1 (fun vs H2 => ∃ ds, m (.obj n fs :: ds) P EK ∧ Same H1 H2 ∧ RVs X.K FF.ls0 (FF.ls0 ++ own) H2 false vs ds) I1
    ⟨FF, own, δ, _, EK, A0, m1, fun ds vs H2 p1 s2 r2 => ⟨ds, p1, s2, r2⟩⟩) fun us s2 ⟨ws, H2, I2, rv, ds, hm1, s12, rr⟩ => ⟨I2.kIn, ?_⟩) hst hpl
  have A2 := A0.on s12
  exact runP (us := .ref a :: us) (vs := .ref a :: ws) F hG hr tk (E := fun cls dd H' => W cls dd σ H') (fun _ _ _ h => h) I2 (.cons rfl rv)
    ⟨FF.ls0 ++ own, .obj n fs :: ds, P, EK, A2.env.trk, A2.tabs, .cons (ro.mono (sub_same s12.ob)) rr.clean, hm1, fun d v H' pd s3 r3 => q d v H' pd ((s01.trans s12).trans s3) (.cl r3), fun er cls dd H' ke s3 r3 => A2.pass er cls dd H' ke s3 r3⟩
def mMeth0 (n mn : Str) (m : FM) (mo : TM) : TM := fun δ Q E => mo δ (fun d => ∃ fs : List (Str × D), d = .obj n fs ∧ fs.lookup mn = none ∧ m [d] Q E) E
/-! ### e.f, a property -/
def mProp (n : Str) (m : FM) (ma : TM) : TM := fun δ Q E => ma δ (fun d => ∃ fs : List (Str × D), d = .obj n fs ∧ m [d] Q NoE) E
theorem CR_none {P : Program} {w : World} {outer : List Env} {H : Hp} {s s' : Shared} {Q : VK} {e : Value} {E : XK} (hE : ∀ cls dd H', ¬ E cls dd H') (h : CR (L2.CX P w) outer P w H s Q E (.error e) s') : False := by
  obtain ⟨_, _, _, _, _, _, _, _, _, _, _, _, z⟩ := h
  exact hE _ _ _ z
theorem de_prop {pp gg : Addr} (hC : PySem.W.nsIn X.K mainGlobals n = some (some (.ref C))) (cl : Cls X.K C) (hp : PropOf X.K C f pp gg) (F : FnD X.prog X.w X.K X.mg X.base k gg m) (hG : GdOk X.A X.base) (hr : Room (k + 1) X.A) (he : DE X W e ba ma) (hcl : ba = false)
    (hab : attributeBase e f X.env (eval e X.env) = eval e X.env := by rfl) : DE X W (.Attribute e f pos) false (mProp n m ma) := by
  subst hcl
  refine ⟨fun pins s σ H Q I ⟨FF, own, δ, P, EK, A, mm, q⟩ => ?_⟩
  refine attr_of hab (thn (he.run pins s σ H (fun x H1 => ∃ fs : List (Str × D), m [.obj n fs] P NoE ∧ Same H H1 ∧ Rep X.K (sub H1 (FF.ls0 ++ own)) x (.obj n fs)) I ⟨FF, own, δ, _, EK, A, mm, fun d v H1 ⟨fs, ed, m1⟩ s1 r1 => by
    subst ed
    exact ⟨fs, m1, s1, r1.clean⟩⟩) fun u s1 ⟨x, H1, I1, rx, fs, m1, s01, ro⟩ => ?_)
  obtain ⟨C', a, dx, vs, hC', rfl, h1, h2⟩ := (RV.cl ro : RV X.K FF.ls0 _ H1 false x _).obj
  rw [hC] at hC'
  cases hC'
  obtain rfl : u = Value.ref a := rx
  have A0 := A.on s01
  obtain ⟨mA, O, _, _, _, _⟩ := ins_get I1.hok h1
  obtain ⟨od, J, _⟩ := O.look
  obtain ⟨rest, hrec⟩ := hp.rec_
  have I2 := I1.tok (s1.toks + 1)
  have hcc : (PySem.W.clsIn X.K C).isSome = true := by
    obtain ⟨cd, hc, _⟩ := PySem.W.any_some cl.hd
    rw [hc]
    rfl
  refine PySem.W.get_bind I1.kIn J (PySem.W.plainGet_of (cl.get f)).1 (PySem.W.findObj_data hcc hp.at_ hp.get hp.tak) (PySem.W.plainGet_of (cl.get f)).2 (wpAny_call (PySem.W.prop_get (s := { s1 with toks := s1.toks + 1 }) I1.kIn hrec ?_))
  have sp : spD X.K m [.ref a] H1 (fun v H' => Q v H') (fun _ _ _ => False) := ⟨FF.ls0 ++ own, [.obj n fs], P, NoE, A0.env.trk, A0.tabs, .cons ro .nil, m1, fun d v H' pd s3 r3 => q d v H' pd (s01.trans s3) (.cl r3), fun _ _ _ _ z => z.elim⟩
  refine codeAny_mono (F X.A.in1 X.stack { s1 with toks := s1.toks + 1 } H1 [.ref a] [.ref a] _ _ hG hr.in1 I2.env0.in1 (.cons rfl .nil) sp) fun r s2 hq => ?_
  cases r with
  | error er => exact (CR_none (fun _ _ _ z => z) hq).elim
  | ok fl =>
    cases fl with
    | ret u =>
      obtain ⟨v, H', I3, rv, q3⟩ := I2.after hq
      show wpAny _ _ (handedOut u) _ _ _
      rw [PySem.W.handedOut_of (handed_of rv)]
      exact wpAny_pure ⟨v, H', I3, rv, q3⟩
    | next => exact False.elim hq
    | brk => exact False.elim hq
    | cont => exact False.elim hq
/-! ### C(e, ..) -/
def mMake (n : Str) (m : MM) (la : LM) : TM := fun δ Q E => la δ (fun ds => m (.obj n []) ds (fun d r => r = .none ∧ Q d) (fun _ er => E er)) E
theorem new_ins {K : PySem.W.Frag} {H : Hp} {x dx C : Addr} {ls : List Addr} (nx : H x = none) (nd : H dx = none) (ne : dx ≠ x) (ht : ∀ l, l ∈ ls → ∃ o, H l = some o ∧ Plain o) : Same H (upd (upd H dx (.own x)) x (.ins C dx [])) ∧ Grow (sub H ls) (sub (upd (upd H dx (.own x)) x (.ins C dx [])) (x :: ls)) := by
  have s : Same H (upd (upd H dx (.own x)) x (.ins C dx [])) := Same.of fun b o q => by
    rw [upd_ne (ne_of_none q nx), upd_ne (ne_of_none q nd)]; exact q
  exact ⟨s, sub_fresh nx s⟩
theorem run_new {f0 : Addr} {pins : List (Addr × Obj)} {σ : L2.St} {H : Hp} {s : Shared} {us : List Value} {vs : List V} {sp : Sp} {Q : VK} {E : XK} (M : Mk X.K C f0) (F : FnP X.prog X.w X.K X.mg X.base k f0 sp) (hG : GdOk X.A X.base) (hr : Room (k + 1) X.A) (tk : Takes X W) (hE : ∀ cls dd H', E cls dd H' → W cls dd σ H') (I : Inv X pins σ H s) (r : Vals vs us)
    (h : ∀ x dx, H x = none → H dx = none → dx ≠ x → sp (V.ref x :: vs) (upd (upd H dx (.own x)) x (.ins C dx [])) (fun v H2 => v = .non ∧ Q (.ref x) H2) E) : wpAny (model X.prog X.w) X.A (call (.ref C) us) (EP X pins σ Q) X.xe s := by
  have hq := h (s.heap.objs.size + 1) s.heap.objs.size (I.hok.fresh (Nat.le_succ _)) (I.hok.fresh (Nat.le_refl _)) (Nat.ne_of_lt (Nat.lt_succ_self _))
  have I2 := Inv.made (C := C) I
  have r2 : Vals (V.ref (s.heap.objs.size + 1) :: vs) (Value.ref (s.heap.objs.size + 1) :: us) := .cons rfl r
  refine wpAny_call (make_map (f := f0) I.kIn M.makes M.init (beq_iff_eq.mp M.fn) (codeAny_mono (F _ X.stack _ _ (Value.ref (s.heap.objs.size + 1) :: us) _ _ E hG (hr.make C us []) (I2.env0.make C us []) r2 hq) fun r s' hq' => ?_))
  cases r with
  | error e => exact tk e s' (XE.of_call I2 hE hq')
  | ok fl =>
    cases fl with
    | ret u =>
      obtain ⟨v, H', I3, rv, ev, q3⟩ := I2.after hq'
      subst ev
      exact ⟨rv, ⟨V.ref (s.heap.objs.size + 1), H', I3, rfl, q3⟩⟩
    | next => exact False.elim hq'
    | brk => exact False.elim hq'
    | cont => exact False.elim hq'
/-- the wish of a making, from data -/
theorem make_sp {σ : L2.St} {H H1 : Hp} {F : Fm} {own : List Addr} {δ : List DV} {P : D → Prop} {EK : Er → Prop} {vs : List V} {ds : List D} {Q : VK} (hC : PySem.W.nsIn X.K mainGlobals n = some (some (.ref C))) (A : At X.K W σ H F own δ EK) (s01 : Same H H1) (rr : Reps X.K (sub H1 (F.ls0 ++ own)) vs ds)
    (m1 : mm (.obj n []) ds (fun d r => r = .none ∧ P d) (fun _ er => EK er)) (q : ∀ d p H', P d → H p = none → Same H H' → FV X.K (p :: (F.ls0 ++ own)) H' p d → Q (.ref p) H') :
    ∀ x dx, H1 x = none → H1 dx = none → dx ≠ x → spM X.K mm (V.ref x :: vs) (upd (upd H1 dx (.own x)) x (.ins C dx [])) (fun v H2 => v = .non ∧ Q (.ref x) H2) (fun cls dd H' => W cls dd σ H') := by
  intro x dx nx nd ne
  have A1 := A.on s01
  obtain ⟨sa, ga⟩ := new_ins (K := X.K) (C := C) nx nd ne A1.env.trk
  have back : ∀ {H' : Hp}, Same (sub (upd (upd H1 dx (.own x)) x (.ins C dx [])) [x]) H' → Same H1 H' := fun {H'} s => by
    have z : Same H1 (sub (upd (upd H1 dx (.own x)) x (.ins C dx [])) [x]) := Same.of fun b o q => by
      rw [sub_out (by simpa using ne_of_none q nx), upd_ne (ne_of_none q nx), upd_ne (ne_of_none q nd)]; exact q
    exact z.trans s
  refine ⟨x :: (F.ls0 ++ own), x, C, dx, n, vs, [], [], ds, _, _, rfl, List.mem_cons_self, fun l hl => ?_, sa.tb A1.tabs, hC, upd_same, .nil, rr.mono ga, m1, fun n' dfs' d v H' C' dx' fs' ⟨ev, pd⟩ hn' s hx rf rv => ?_, fun n' dfs' er cls dd H' C' dx' fs' ke hn' s hx rf re => ?_⟩
  · rcases List.mem_cons.mp hl with rfl | hl
    · exact ⟨_, upd_same, plain_of⟩
    · obtain ⟨o, e, nn⟩ := A1.env.trk l hl
      exact ⟨o, sa.ob.get l o e nn.1, nn⟩
  · subst ev
    have e : v = .non := by cases rv; rfl
    exact ⟨e, q _ x H' pd (s01.free nx) (s01.trans (back s)) (.o hn' hx rf)⟩
  · exact A1.pass er cls dd H' ke (back s) (re.less fun a h => List.mem_cons_of_mem _ h)
theorem df_make {f0 : Addr} (hC : PySem.W.nsIn X.K mainGlobals n = some (some (.ref C))) (M : Mk X.K C f0) (F : FnM X.prog X.w X.K X.mg X.base k f0 mm) (hG : GdOk X.A X.base) (hr : Room (k + 1) X.A) (tk : Takes X W) (hg : Gl X n) (gC : X.mg n = some (.ref C)) (ha : DA X W (e :: es) false la) (hdb : (n == ("__debug__" : Str)) = false := by decide)
    (he : starEach (e :: es) X.env = (false, eval e X.env) :: starEach es X.env := by rfl) (hpl : (backTo pos (starEach es X.env)).any (·.1) = false := by rfl) : DF X W (.Call (.Name n p) (e :: es) [] pos) (mMake n mm la) := by
  refine ⟨fun pins s σ H Q I ⟨FF, own, δ, P, EK, A, m, q⟩ => ?_⟩
  refine wpAny_Call_Name_kw (ld_glob I hg gC ?_ hdb)
  refine PySem.W.callWith_K (h₀ := X.base) I.ok.mod.kin M.kp (thn (ha.run pos pins s σ H (fun vs H1 => ∃ ds, mm (.obj n []) ds (fun d r => r = .none ∧ P d) (fun _ er => EK er) ∧ Same H H1 ∧ Reps X.K (sub H1 (FF.ls0 ++ own)) vs ds) I
    ⟨FF, own, δ, _, EK, A, m, fun ds vs H1 p1 s1 r1 => ⟨ds, p1, s1, r1.clean⟩⟩) fun us s1 ⟨vs, H1, I1, rv, ds, m1, s01, rr⟩ => ⟨I1.kIn, ?_⟩) he hpl
  exact run_new M F hG hr tk (E := fun cls dd H' => W cls dd σ H') (fun _ _ _ h => h) I1 rv (make_sp hC A s01 rr m1 q)
theorem df_make0 {f0 : Addr} (hC : PySem.W.nsIn X.K mainGlobals n = some (some (.ref C))) (M : Mk X.K C f0) (F : FnM X.prog X.w X.K X.mg X.base k f0 mm) (hG : GdOk X.A X.base) (hr : Room (k + 1) X.A) (tk : Takes X W) (hg : Gl X n) (gC : X.mg n = some (.ref C)) (hdb : (n == ("__debug__" : Str)) = false := by decide) : DF X W (.Call (.Name n p) [] [] pos) (mMake n mm mNil) := by
  refine ⟨fun pins s σ H Q I ⟨FF, own, δ, P, EK, A, m, q⟩ => ?_⟩
  refine wpAny_Call_Name_kw (ld_glob I hg gC ?_ hdb)
  exact PySem.W.callWith_K0 I.kIn M.kp (run_new (us := []) (vs := []) M F hG hr tk (E := fun cls dd H' => W cls dd σ H') (fun _ _ _ h => h) I .nil (make_sp hC A (Same.refl H) .nil m q))
/-- C(*e) -/
def mMakeS (n : Str) (m : MM) (ma : TM) : TM := fun δ Q E => ma δ (fun d => ∃ ds, (d = .tup ds ∨ d = .list ds) ∧ m (.obj n []) ds (fun d r => r = .none ∧ Q d) (fun _ er => E er)) E
end
/-! ### isinstance of own classes -/
def ownTys : List String := ["NoneType", "bool", "int", "str", "list", "tuple", "dict"]
/-- what the written part says of an own class and the built-in ones -/
def kitAll (K : PySem.W.Frag) (C : Addr) : Bool := ownTys.all fun t => decide (PySem.W.kitOne K (.type t) (.ref C) = some false)
def isClsD (n : Str) : D → Bool
  | .obj m _ => decide (m = n)
  | _ => false
def fIsiC (others : List Str) (n : Str) (d : D) (Q : D → Prop) : Prop := (d.tyn.isSome = true ∨ ∃ m fs, d = .obj m fs ∧ m ∈ others) ∧ Q (.bool (isClsD n d))
def mIsiC (others : List Str) (n : Str) (ma : TM) : TM := fun δ Q E => ma δ (fun d => fIsiC others n d Q) E
/-- .. of a class whose instances' kind is asked -/
structure InsTy (K : PySem.W.Frag) (C : Addr) : Prop where
  cl : Cls K C
  fc : PySem.W.findIn K (.ref C) "__class__" = some (some (.builtin "object.__class__"))
  sg : PySem.W.specialIn K (.builtin "object.__class__") "__get__" = some (some (.builtin "getset_descriptor.__get__"))
  tk : PySem.W.takesIn K (.builtin "object.__class__") = some true
  mo : PySem.W.mroIn K C (.type "object") = some true
/-- own classes among one another -/
structure KitOwn (K : PySem.W.Frag) (others : List Str) : Prop where
  two : ∀ (m n : Str) (Cm Cn : Addr), m ∈ others → n ∈ others → PySem.W.nsIn K mainGlobals m = some (some (.ref Cm)) → PySem.W.nsIn K mainGlobals n = some (some (.ref Cn)) → PySem.W.kitOne K (.ref Cm) (.ref Cn) = some (decide (m = n))
  ins : ∀ (m : Str) (Cm : Addr), m ∈ others → PySem.W.nsIn K mainGlobals m = some (some (.ref Cm)) → InsTy K Cm
theorem tyn_mem {d : D} {t : String} (h : d.tyn = some t) : t ∈ ownTys := by
  cases d <;> cases h <;> decide
section
variable {X : Cx} {W : WX} {a : Expr} {ba : Bool} {ma : TM} {n : Str} {C : Addr} {pos p p2 : Pos} {others : List Str}
theorem de_isiC (hC : PySem.W.nsIn X.K mainGlobals n = some (some (.ref C))) (gC : X.mg n = some (.ref C)) (hcn : Gl X n) (hdb : (n == ("__debug__" : Str)) = false) (hk : kitAll X.K C = true) (ho : KitOwn X.K others) (hin : n ∈ others) (hg : Gl X "isinstance") (hm : X.mg "isinstance" = none) (ha : DE X W a ba ma)
    (hs : starEach [a, .Name n p2] X.env = (false, eval a X.env) :: starEach [.Name n p2] X.env := by rfl) (hs2 : starEach [.Name n p2] X.env = (false, eval (.Name n p2) X.env) :: starEach [] X.env := by rfl) (hpl : (backTo pos (starEach [.Name n p2] X.env)).any (·.1) = false := by rfl) :
    DE X W (.Call (.Name "isinstance" p) [a, .Name n p2] [] pos) false (mIsiC others n ma) :=
  PE.imp (pe_callB call_isi hg hm (by decide +kernel) (pa_cons ha (pa_cons (pe_glob (v := .ref C) hcn gC rfl (hd := hdb)) pa_nil hs2) hs) (by decide) (by decide) hs hpl) fun σ H Q ⟨F, own, δ, P, EK, A, m, q⟩ => ⟨F, own, δ, _, EK, A, m, fun d v H1 ⟨hd, m1⟩ s1 r1 => by
    have fin : ∀ t, TyX X.K H1 v t → PySem.W.kitOne X.K t (.ref C) = some (isClsD n d) → ∃ (x c : V) (t u : Value) (b : Bool), [v, V.ref C] = [x, c] ∧ ClsV c u ∧ TyX X.K H1 x t ∧ PySem.W.kitOne X.K t u = some b ∧ Q (.bl b) H1 := fun t ty hk => ⟨v, .ref C, t, .ref C, _, rfl, .own C, ty, hk, q _ _ H1 m1 s1 (.cl (.bool _))⟩
    rcases hd with hd | ⟨m', fs, rfl, hm'⟩
    · obtain ⟨t, ht⟩ := Option.isSome_iff_exists.mp hd
      refine fin (.type t) (tyx_rv r1 ht) ?_
      have z := of_decide_eq_true (List.all_eq_true.mp hk t (tyn_mem ht))
      rw [z]
      cases d <;> cases ht <;> rfl
    · obtain ⟨C', a, dx, vs, hC', rfl, h1, h2⟩ := r1.obj
      have T := ho.ins m' C' hm' hC'
      refine fin (.ref C') (.base (.ins h1 T.cl T.fc T.sg T.tk T.mo)) ?_
      rw [ho.two m' n C' C hm' hin hC' hC]
      rfl⟩
end
end DL
set_option Elab.async false
set_option linter.all false
set_option maxRecDepth 100000
set_option maxHeartbeats 4000000
/-! DL22: list(d.values()). -/
namespace DL
open PySem PySem.Spec PyProof.Rows L2
variable [TabsC]
section
variable {X : Cx} {W : WX} {e : Expr} {te : TE} {ba : Bool} {ma : TM} {p apos cpos pos : Pos}
def mListVals (ma : TM) : TM := fun δ Q E => ma δ (fun d => ∃ ds : List (Key × D), d = .dict ds ∧ Q (.list (ds.map (·.2)))) E
end
end DL
set_option Elab.async false
set_option linter.all false
set_option maxRecDepth 100000
set_option maxHeartbeats 4000000
/-! DL23: chains within a list of sizes, counted and the longest (plain). -/
namespace DL
variable [TabsC]
def chainB (s : List Int) : Bool := decide (s ≠ []) && (gapL s).isNone
/-! ### the table -/
/-! ### the longest -/
structure LongOk (p : List Int) (L : List (List Int)) : Prop where
  mem : ∀ t, t ∈ L → chainB t = true ∧ t.Sublist p
  top : ∀ s, s.Sublist p → chainB s = true → ∃ t, t ∈ L ∧ t.getLastD 0 = s.getLastD 0 ∧ s.length ≤ t.length
theorem LongOk.nil : LongOk [] [] := ⟨(fun t h => by cases h), fun s h hc => absurd (show chainB [] = true from List.sublist_nil.mp h ▸ hc) (by decide)⟩
end DL
set_option Elab.async false
set_option linter.all false
set_option maxRecDepth 100000
set_option maxHeartbeats 4000000
/-! DL24: errors of one's own: made, raised, caught by several clauses, their field read. -/
namespace DL
open PySem PySem.Spec PyProof.Rows L2
/-! ### an own class over a built-in one -/
/-- own classes, then the tail -/
def refsT (tl : List Value) : List Value → Bool
  | .ref _ :: r => refsT tl r
  | l => l == tl
theorem refsT_split {tl : List Value} : ∀ l : List Value, refsT tl l = true → ∃ cs : List Addr, l = cs.map Value.ref ++ tl := by
  intro l
  induction l with
  | nil => intro e; exact ⟨[], (beq_iff_eq.mp e)⟩
  | cons a r ih =>
    intro e
    cases a with
    | ref c =>
      obtain ⟨cs, z⟩ := ih e
      exact ⟨c :: cs, by rw [z]; rfl⟩
    | _ => exact ⟨[], beq_iff_eq.mp e⟩
theorem refsT_has {tl : List Value} {l : List Value} (e : refsT tl l = true) (n : String) : l.contains (.type n) = tl.contains (.type n) := by
  obtain ⟨cs, rfl⟩ := refsT_split l e
  induction cs with
  | nil => rfl
  | cons c cs ih => rw [List.map_cons, List.cons_append, List.contains_cons, ih (by simpa [refsT] using e)]; rfl
theorem refsT_pass {tl : List Value} {self : Value} (ht : PySem.refuseLoop self "__setattr__" tl = pure ()) : ∀ cs : List Addr, PySem.refuseLoop self "__setattr__" (cs.map Value.ref ++ tl) = pure ()
  | [] => ht
  | c :: cs => by
    rw [List.map_cons, List.cons_append, refuseLoop_ref]
    exact refsT_pass ht cs
end DL
namespace PySem
namespace HandSPX
open PySem.W PySem.Calls PyProof.Rows PySem.Builtin PySem.Builtin.ObjectAttr
section
variable {prog : Program} {w : World} {A : Around} {R : Result → Shared → Prop} {hp : Heap} {g : Array GenState} {d : Drawn} {t : Nat} {os : OsState}
/-- a first attribute of a new exception of any own class: its dict is made -/
theorem exc_first {K : W.Frag} {fld : Str} {tk : Tok} {val : Value} {tl : List Value} {x C : Addr} {fv : Array Value} {cd : ClassData} (KI : K.In hp) (atx : hp.get? x = some { cls := .ref C, data := .fields fv }) (hcd : W.clsIn K C = some cd) (hm : DL.refsT tl cd.mro = true) (hpass : ∀ self, refuseLoop self "__setattr__" tl = pure ()) (hobj : tl.contains (.type "object") = true)
    (hdict : cd.hasDict = true) (hno : W.findIn K (.ref C) fld = some none)
    (fin : ∀ h' tk' dx, (∀ b o, b ≠ x → hp.get? b = some o → h'.get? b = some o) → hp.objs.size ≤ dx → dx ≠ x → h'.get? x = some { cls := .ref C, dict := some dx, data := .fields fv } → h'.Ns1 dx (fun y => if y = fld then some val else none) → R (.ok (.ret .none)) ⟨h', g, d, tk', os⟩) :
    codeAny (model prog w) A (.call (.builtin "object.__setattr__") ⟨[.ref x, .str fld tk, val], []⟩) R ⟨hp, g, d, t, os⟩ := by
  have inst : W.InstAt hp x { cls := .ref C, data := .fields fv } C none := ⟨atx, rfl, rfl, trivial⟩
  have hob : cd.mro.contains (.type "object") = true := (DL.refsT_has hm "object").trans hobj
  have ne : cd.mro.isEmpty = false := by
    cases e : cd.mro with
    | nil => rw [e] at hob; cases hob
    | cons _ _ => rfl
  have pass : ∀ self, refuseLoop self "__setattr__" cd.mro = pure () := fun self => by
    obtain ⟨cs, e⟩ := DL.refsT_split _ hm
    rw [e]
    exact DL.refsT_pass (hpass self) cs
  have apart : x ≠ hp.objs.size := Nat.ne_of_lt (Heap.lt_size atx)
  have isObj : W.Looks (model prog w) hp (isInstance (.ref x) (.type "object")) true := inst.type.andThen (W.looks_mroIn KI (by unfold W.mroIn; rw [hcd, Option.bind_some, if_neg (by rw [ne]; decide), hob]))
  have FO := F.store_object
  refine codeAny_call_builtin FO.slot.plain FO.entry (@W.check_slot (model prog w) _ _ ⟨hp, g, d, t, os⟩ "object.__setattr__" "object" "__setattr__" (.ref x) [.str fld tk, val] [] _ FO.kind FO.split isObj (FO.args (.ref x) (.str fld tk) val) ?_)
  have lm : W.Looks (model prog w) hp (mroOf (.ref C)) cd.mro := (W.looks_clsIn KI hcd).andThen .now
  have ls : W.Looks (model prog w) hp (storeTaker? none) none := .now
  have lc : W.Looks (model prog w) hp (classData C) cd := W.looks_clsIn KI hcd
  rw [W.osa_eq, refuse_eq]
  refine wpAny_bind (wpAny_bind (inst.type.at (wpAny_bind (lm.at ?_))))
  rw [pass _]
  refine wpAny_pure (wpAny_bind (inst.type.at (wpAny_bind ((W.looks_findIn KI hno).at (wpAny_bind (ls.at ?_))))))
  show wpAny _ _ (storeInOwnDict (.ref x) (.ref C) (.str fld tk) fld val false) _ _ _
  obtain ⟨n1, n2, n3, n4, n5, hd, n6, n7, n8, n9, n10⟩ := cd
  dsimp only at hdict
  subst hdict
  unfold storeInOwnDict ownDictForStores
  repeat (first | with_reducible refine store_in_new ?_ ?_ | with_reducible refine wpAny_loadPart_at atx ?_ | with_reducible refine lc.at ?_ | wp_step)
  · exact ⟨_, #[], _, (Heap.get?_update_ne _ _ _ _ apart.symm).trans (Heap.get?_push_at rfl rfl), rfl, fun e he => absurd he (by simp), fun _ => rfl⟩
  · intro h2 tk2 ns2 sb
    have atx1 : (hp.push { cls := .type "dict", data := .dict #[] }).get? x = some { cls := .ref C, data := .fields fv } := Heap.get?_push_of_some _ atx
    refine fin h2 tk2 hp.objs.size (fun b o hb ho => ?_) (Nat.le_refl _) apart.symm ?_ ns2
    · exact (sb.2 b (Nat.ne_of_lt (Heap.lt_size ho))).trans ((Heap.get?_update_ne _ _ _ _ hb).trans (Heap.get?_push_of_some _ ho))
    · exact (sb.2 x apart).trans (Heap.get?_update_self _ atx1 rfl)
end
end HandSPX
end PySem
namespace DL
open PySem PySem.Spec PyProof.Rows L2
/-! ### def __init__(self, f): self.f = f -/
def xA (f : Str) (p1 p2 : Pos) : Arguments := { posonlyargs := [], args := [{ arg := "self", annotation := none, pos := p1 }, { arg := f, annotation := none, pos := p2 }], vararg := none, kwonlyargs := [], kw_defaults := [], kwarg := none, defaults := [] }
def xB (f : Str) (q1 q2 q3 q4 : Pos) : List Stmt := [.Assign [.Attribute (.Name "self" q1) f q2] (.Name f q3) q4]
def xS (f : Str) : Scope := { kind := .function, names := [(PySem.Str.ofString "self", .local), (f, .local)], isGenerator := false, isCoroutine := false, more := [] }
/-- what the written part says of an own exception class at C that keeps one field -/
structure OwnX (K : PySem.W.Frag) (C fI : Addr) (nm qn f : Str) (tl : List Value) (newId : String) : Prop where
  cls : ∃ n q N bs bm sn sub ab col dd k0 k1 k2 k3 k5, K.lookup C = some (excClassObj n q C N bs bm true sn sub ab col dd k0 k1 k2 k3 k5 newId) ∧ refsT tl bm = true
  sa : PySem.W.findIn K (.ref C) "__setattr__" = some (some (.builtin "object.__setattr__"))
  ga : PySem.W.findIn K (.ref C) "__getattribute__" = some (some (.builtin "BaseException.__getattribute__"))
  gg : PySem.W.findIn K (.ref C) "__getattr__" = some none
  no : PySem.W.findIn K (.ref C) f = some none
  iC : PySem.W.findIn K (.ref C) "__init__" = some (some (.ref fI))
  tC : PySem.W.typeIn K (.ref fI) = some (.type "function")
  kC : PySem.W.keepIn K (.ref C) = true
  ex : PySem.W.subIn K (.ref C) (.type "BaseException") = some true
  ty : PySem.W.typeIn K (.ref C) = some (.type "type")
  hd : PySem.W.hasDictIn K C = true
  fn : ∃ (oc : Value) (od : Option Addr) (doc pm : Value) (an : Option Addr) (cdv ct : Value) (osl : Array (Option Value)) (p1 p2 q1 q2 q3 q4 : Pos),
    K.lookup fI = some ⟨oc, od, .func (PySem.W.fnOf "__init__" qn (xA f p1 p2) (xB f q1 q2 q3 q4) (xS f) .none .none doc pm an cdv ct), osl⟩ ∧ PySem.W.codeIn K cdv qn = true
structure MadeX (h h' : Heap) (e C d : Addr) (f : Str) (v : Value) : Prop where
  keep : ∀ b o, h.get? b = some o → h'.get? b = some o
  new : h.objs.size ≤ e
  obj : ∃ oe vs, h'.get? e = some oe ∧ oe.cls = .ref C ∧ oe.dict = some d ∧ oe.data = .fields vs ∧ vs[1]? = some .none
  dbig : h.objs.size ≤ d
  dne : d ≠ e
  ns : h'.Ns1 d (fun y => if y = f then some v else none)
/-- facts of the field's name -/
structure FldOk (f : Str) : Prop where
  bind : ∀ (qn : Str) (doc pm cdv ct x v : Value) (an : Option Addr) (p1 p2 q1 q2 q3 q4 : Pos), bindArgs (PySem.W.fnOf "__init__" qn (xA f p1 p2) (xB f q1 q2 q3 q4) (xS f) .none .none doc pm an cdv ct) ⟨[x, v], []⟩ = pure [(("self" : Str), x), (f, v)]
  all : ((xS f).names.lookup ("self" : Str) == some NameKind.local || (xS f).names.lookup ("self" : Str) == some NameKind.cell) = true ∧ ((xS f).names.lookup f == some NameKind.local || (xS f).names.lookup f == some NameKind.cell) = true
  kd : ∀ (name : Str) (L a : Addr) (cd : Value), (envOfC name (xS f) L a cd).kindOf f = some .local
  ks : ∀ (name : Str) (L a : Addr) (cd : Value), (envOfC name (xS f) L a cd).kindOf "self" = some .local
  dbg : (f == ("__debug__" : Str)) = false
  mf : ∀ (name : Str) (L a : Addr) (cd x v : Value), bindL (envOfC name (xS f) L a cd).kindOf [(("self" : Str), x), (f, v)] (fun _ => none) f = some v
  ms : ∀ (name : Str) (L a : Addr) (cd x v : Value), bindL (envOfC name (xS f) L a cd).kindOf [(("self" : Str), x), (f, v)] (fun _ => none) "self" = some x
/-- facts of the built-in base -/
structure BaseX (B newId initId : String) (tl : List Value) : Prop where
  F : ExcBaseFacts B newId initId tl
  pass : ∀ self, PySem.refuseLoop self "__setattr__" tl = pure ()
  obj : tl.contains (.type "object") = true
section
variable {prog : Program} {w : World} {A : Around} {E : Value → Shared → Prop} {R : Result → Shared → Prop} {s : Shared} {K : PySem.W.Frag} {C fI : Addr} {nm qn f : Str} {tl : List Value} {B newId initId : String}
theorem ld_at {M : Model} {s : Shared} {name : Str} {scope : Scope} {L a : Addr} {cd : Value} {m : Str → Option Value} {x : Str} {pos : Pos} {v : Value} {Q : Value → Shared → Prop} {A : Around} {E : Value → Shared → Prop} (hn : s.heap.Ns L m) (hv : m x = some v) (hk : scope.kind = .function) (hl : (envOfC name scope L a cd).kindOf x = some .local) (hd : (x == ("__debug__" : Str)) = false) (h : Q v s) :
    wpAny M A (eval (.Name x pos) (envOfC name scope L a cd)) Q E s := wpAny_Name (wpAny_loadName_local hk hl hn hv h) hd
theorem init_x (BX : BaseX B newId initId tl) (T : OwnX K C fI nm qn f tl newId) (FO : FldOk f) {x t0 : Addr} {v : Value} (KI : K.In s.heap) (hlim : s.heap.NoLimit) (hx : s.heap.get? x = some (PySem.HandSPX.excO C t0)) (hroom : A.depth < recursionLimit)
    (hq : ∀ h' tk dx, (∀ b o, b ≠ x → s.heap.get? b = some o → h'.get? b = some o) → h'.get? x = some { cls := .ref C, dict := some dx, data := .fields #[.ref t0, .none, .none, .none, .bool false, .none] } → s.heap.objs.size ≤ dx → dx ≠ x → h'.Ns1 dx (fun y => if y = f then some v else none) → R (.ok (.ret .none)) { s with heap := h', toks := tk }) :
    codeAny (model prog w) A (.call (.ref fI) ⟨[.ref x, v], []⟩) R s := by
  obtain ⟨oc, od, doc, pm, an, cdv, ct, osl, p1, p2, q1, q2, q3, q4, ho, hcd⟩ := T.fn
  obtain ⟨n, q, N, bs, bm, sn, sub, ab, col, dd, k0, k1, k2, k3, k5, hC, hbm⟩ := T.cls
  have hcl : PySem.W.clsIn K C = some { name := n, bases := bs, mro := .ref C :: bm, ns := N, qualname := q, hasDict := true, slotNames := sn, subclasses := sub, abstract := ab, collection := col, hasDel := false } := by unfold PySem.W.clsIn; rw [hC] <;> rfl
  refine Att.call_fn (binds := [("self", .ref x), (f, v)]) KI hlim ho hcd hroom (BindsTo.of_eq (FO.bind _ _ _ _ _ _ _ _ _ _ _ _ _ _)) (by simp only [List.all_cons, List.all_nil]; rw [FO.all.1, FO.all.2]; rfl) (fun s1 IC => ?_) rfl rfl rfl
  obtain ⟨h1, tk1, rfl⟩ := IC.toInCall.same
  have kp : ∀ b o, s.heap.get? b = some o → h1.get? b = some o := IC.toInCall.keep
  have hn := IC.toInCall.ns
  have KI1 : K.In h1 := KI.keeps kp
  have hx1 := kp _ _ hx
  show wpAny _ _ (execs _ _) _ _ _
  refine wpAny_execs_cons (plainObj_wpAny_Assign_Attribute ?_)
  refine ld_at (v := v) hn ?_ rfl (FO.kd _ _ _ _) FO.dbg (ld_at (v := .ref x) hn ?_ rfl (FO.ks _ _ _ _) (by decide) ?_)
  · exact FO.mf _ _ _ _ _ _
  · exact FO.ms _ _ _ _ _ _
  refine PySem.W.set_plain KI1 (ox := PySem.HandSPX.excO C t0) (od := none) ⟨hx1, rfl, rfl, trivial⟩ T.sa ?_
  refine PySem.HandSPX.exc_first (tl := tl) KI1 hx1 hcl (show refsT tl (.ref C :: bm) = true from hbm) BX.pass BX.obj rfl T.no (fun h3 tk3 dx k3 dn dne hx3 hn3 => ?_)
  show wpAny _ _ (execs _ _) _ _ _
  have z : s.heap.objs.size < h1.objs.size := hn.lt
  exact wpAny_execs_nil (hq h3 tk3 dx (fun b o hb e => k3 b o hb (kp b o e)) hx3 (Nat.le_of_lt (Nat.lt_of_lt_of_le z dn)) dne hn3)
theorem made_x (BX : BaseX B newId initId tl) (T : OwnX K C fI nm qn f tl newId) (FO : FldOk f) {v : Value} (KI : K.In s.heap) (hlim : s.heap.NoLimit) (hroom : A.depth + 1 < recursionLimit)
    (hq : ∀ h' tk e d, MadeX s.heap h' e C d f v → R (.ok (.ret (.ref e))) { s with heap := h', toks := tk }) : codeAny (model prog w) A (.call (.ref C) ⟨[v], []⟩) R s := by
  obtain ⟨n, q, N, bs, bm, sn, sub, ab, col, dd, k0, k1, k2, k3, k5, hC, hbm⟩ := T.cls
  obtain ⟨hp, g, dr, tk, os⟩ := s
  have kp : ∀ b o, hp.get? b = some o → ((hp.push (PySem.W.kdv_tup [v])).push (PySem.HandSPX.excO C hp.objs.size)).get? b = some o := fun b o e => Heap.get?_push_of_some _ (Heap.get?_push_of_some _ e)
  have at_ : ((hp.push (PySem.W.kdv_tup [v])).push (PySem.HandSPX.excO C hp.objs.size)).get? (hp.objs.size + 1) = some (PySem.HandSPX.excO C hp.objs.size) := by
    have := Heap.get?_push_size (hp.push (PySem.W.kdv_tup [v])) (o := PySem.HandSPX.excO C hp.objs.size) rfl
    rwa [Heap.size_push] at this
  refine PySem.HandSPX.call_own BX.F (fun Y => refsT_has hbm Y) (KI _ _ hC) (PySem.W.looks_findIn KI T.iC) (fun self => PySem.W.bind_fn KI self T.tC) (by show 1 ≤ sizeLine; rw [sizeLine_eq]; decide) ?_
  refine init_x (s := ⟨(hp.push (PySem.W.kdv_tup [v])).push (PySem.HandSPX.excO C hp.objs.size), g, dr, tk, os⟩) BX T FO (KI.keeps kp) (hlim.keeps kp) at_ ?_ fun h2 tk2 dx k2 hx dn dne hns => ?_
  · show A.depth + 1 < recursionLimit
    exact hroom
  · have dn2 : hp.objs.size + 1 + 1 ≤ dx := by
      have z : ((hp.push (PySem.W.kdv_tup [v])).push (PySem.HandSPX.excO C hp.objs.size)).objs.size ≤ dx := dn
      rwa [Heap.size_push, Heap.size_push] at z
    exact ⟨rfl, hq h2 tk2 (hp.objs.size + 1) dx ⟨fun b o e => k2 b o (Nat.ne_of_lt (Nat.lt_succ_of_lt (Heap.lt_size e))) (kp b o e), Nat.le_succ _, ⟨_, _, hx, rfl, rfl, rfl, rfl⟩, (show hp.objs.size ≤ dx from by omega), dne, hns⟩⟩
end
/-! ### X(e), raised -/
section
variable {X : Cx} {C fI : Addr} {nm qn f : Str} {tl : List Value} {B newId initId : String} {W : WX} {a : Expr} {ta : TA} {x : Str} {p pos pos2 : Pos} {k : Nat}
def tMkX (C : Addr) (f : Str) (ta : TA) : L2.St → Hp → XK → Prop := fun σ H Q => ta σ H fun vs H1 => ∃ v, vs = [v] ∧ ∀ d, H1 d = none → Q (.ref C) (some d) (upd H1 d (.xd [(f, v)]))
theorem pmk_x (BX : BaseX B newId initId tl) (T : OwnX X.K C fI nm qn f tl newId) (FO : FldOk f) (gC : X.mg x = some (.ref C)) (hr : Room (k + 1) X.A) (ha : PA X [a] ta) (hg : Gl X x) (hdb : (x == ("__debug__" : Str)) = false := by decide)
    (he : starEach (a :: []) X.env = (false, eval a X.env) :: starEach [] X.env := by rfl) (hpl : (backTo pos (starEach [] X.env)).any (·.1) = false := by rfl) : PMk X (.Call (.Name x p) [a] [] pos) (tMkX C f ta) := by
  intro pins s σ H Q I h
  refine wpAny_Call_Name_kw (ld_glob I hg gC ?_ hdb)
  refine PySem.W.callWith_K (h₀ := X.base) I.ok.mod.kin T.kC (thn (ha.run pos pins s σ H _ I h) fun us s1 hh => ?_) he hpl
  obtain ⟨vs, H1, I1, r1, v, ev, q1⟩ := hh
  subst ev
  refine ⟨I1.kIn, ?_⟩
  obtain ⟨u, rfl, rv⟩ := vals1 r1
  show wpAny _ _ (call (.ref C) [u]) _ _ _
  have lim := I1.nolimit
  obtain ⟨hp, g, dr, tk, os⟩ := s1
  refine wpAny_call (made_x BX T FO I1.kIn lim (by have := hr.dp; omega) fun h2 tk2 e d M => ?_)
  show MkP X pins σ Q (.ref e) ⟨h2, g, dr, tk2, os⟩
  obtain ⟨oe, fv, hoe, hc, hd, hdat, h1⟩ := M.obj
  obtain ⟨G, g1, g2⟩ := restrict h2 fun b => decide (b ≠ e)
  have gk : ∀ b, b ≠ e → G.get? b = h2.get? b := fun b hb => g1 b (decide_eq_true hb)
  have ge : G.get? e = none := g2 e (by simp)
  have old : ∀ b o, hp.get? b = some o → G.get? b = some o := fun b o q => (gk b (Nat.ne_of_lt (Nat.lt_of_lt_of_le (Heap.lt_size q) M.new))).trans (M.keep b o q)
  have rel : ∀ y : Str, RelO (List.lookup y [(f, v)]) (if y = f then some u else none) := fun y => by
    rw [List.lookup_cons]
    by_cases z : y = f
    · rw [if_pos z, show (y == f) = true by simpa using z]; exact rv
    · rw [if_neg z, show (y == f) = false by simpa using z]; trivial
  have J : Inv X pins σ (upd H1 d (.xd [(f, v)])) ⟨G, g, dr, tk2, os⟩ := I1.laid (t' := tk2) old M.dbig (show ObjOk X.prog X.w _ G d (.xd [(f, v)]) from ⟨_, M.ns.at (fun o q => (gk d M.dne).trans q), rel⟩)
  refine ⟨e, oe, fv, ⟨G, g, dr, tk2, os⟩, _, .ref C, some d, rfl, J, fun b o q => ?_, ge, hoe, ⟨hc, hd⟩, hdat, h1, ?_, rfl, I1.bare, raises_own T.ex T.ty, q1 d (I1.hok.fresh M.dbig)⟩
  · by_cases hb : b = e
    · have z : G.get? b = some o := q
      rw [hb, ge] at z; cases z
    · exact (gk b hb).symm.trans q
  · rw [upd_ne (Ne.symm M.dne)]
    exact I1.hok.fresh M.new
end
variable [TabsC]
section
variable {X : Cx} {C fI : Addr} {nm qn f : Str} {tl : List Value} {B newId initId : String} {W : WX} {a e : Expr} {ba : Bool} {ma : TM} {x : Str} {p p2 pos pos2 : Pos} {k : Nat}
/-- raise X(e) -/
def sRaise (nm f : Str) (ma : TM) : SM := fun δ k => ma δ (fun d => k.er δ ⟨nm, some (f, d)⟩) (k.er δ)
theorem ds_raise (BX : BaseX B newId initId tl) (T : OwnX X.K C fI nm qn f tl newId) (FO : FldOk f) (hn : PySem.W.nsIn X.K mainGlobals nm = some (some (.ref C))) (gC : X.mg nm = some (.ref C)) (hc : X.calm = true) (hr : Room (k + 1) X.A) (tk : Takes X W) (ha : DE X W a false ma) (hg : Gl X nm) (hdb : (nm == ("__debug__" : Str)) = false := by decide)
    (he : starEach (a :: []) X.env = (false, eval a X.env) :: starEach [] X.env := by rfl) (hpl : (backTo pos (starEach [] X.env)).any (·.1) = false := by rfl) : DS X W (.Raise (some (.Call (.Name nm p) [a] [] pos)) none pos2) (sRaise nm f ma) :=
  PS.imp (ps_raise hc tk (pmk_x BX T FO gC hr (pa_cons ha pa_nil he) hg hdb he hpl)) fun D σ H ⟨F, own, δ, κ, E, h, L⟩ => ⟨F, own, δ, _, _, L.at E, h, fun d v H1 m1 s1 r1 => ⟨v, rfl, fun dx hdx => by
    have out : dx ∉ F.ls0 ++ own := nofr (E.grow s1).trk hdx
    have g := sub_same (ls := F.ls0 ++ own) (same_upd (o := .xd [(f, v)]) hdx).ob
    exact L.er _ _ _ σ _ own δ (E.grow (s1.trans (same_upd hdx))) m1 ⟨⟨C, hn, rfl⟩, fun f' d' q => by
      cases q
      exact ⟨dx, v, rfl, by rw [sub_out out]; exact upd_same, r1.clean.mono g⟩⟩⟩⟩
/-- raise X('m') -/
def sRaise0 (nm : Str) : SM := fun δ k => k.er δ ⟨nm, none⟩
theorem ds_raise0 {m : Str} {j : Nat} {bmB : List Value} (F : ExcBaseFacts B newId initId bmB) (q : PySem.W.excIn X.K C bmB newId = true) (hn : PySem.W.nsIn X.K mainGlobals nm = some (some (.ref C))) (gC : X.mg nm = some (.ref C)) (kC : PySem.W.keepIn X.K (.ref C) = true) (h1 : PySem.W.subIn X.K (.ref C) (.type "BaseException") = some true) (h2 : PySem.W.typeIn X.K (.ref C) = some (.type "type")) (hc : X.calm = true) (tk : Takes X W) (hg : Gl X nm) (hdb : (nm == ("__debug__" : Str)) = false := by decide) :
    DS X W (.Raise (some (.Call (.Name nm p) [.Constant (.str m) j p2] [] pos)) none pos2) (sRaise0 nm) :=
  PS.imp (ps_raise hc tk (pmk_own F q gC kC (raises_own h1 h2) hg hdb)) fun D σ H ⟨Fm, own, δ, κ, E, h, L⟩ => L.er _ _ _ σ H own δ E h ⟨⟨C, hn, rfl⟩, fun f d q => by cases q⟩
end
end DL
set_option Elab.async false
set_option linter.all false
set_option maxRecDepth 100000
set_option maxHeartbeats 4000000
/-! DL25: try with several clauses; what a caught error keeps. -/
namespace DL
open PySem PySem.Spec PyProof.Rows L2
theorem bx_IndexError : BaseX "IndexError" "IndexError.__new__" "IndexError.__init__" [.type "IndexError", .type "LookupError", .type "Exception", .type "BaseException", .type "object"] := ⟨PySem.F.excBase_IndexError, fun s => by kernel_rfl, by decide +kernel⟩
/-! ### over data -/
variable [TabsC]
/-- which class takes which error -/
structure HIsa (K : PySem.W.Frag) (names : List Str) (isa : Str → Str → Bool) : Prop where
  one : ∀ (n c : Str) (Cn Cc : Addr), n ∈ names → c ∈ names → PySem.W.nsIn K mainGlobals n = some (some (.ref Cn)) → PySem.W.nsIn K mainGlobals c = some (some (.ref Cc)) → PySem.W.exmOne K (.ref Cn) (.ref Cc) = some (isa n c)
def HM := Er → SM
def hPlain (m : SM) : HM := fun _ δ k => m δ { k with er := fun _ _ => False }
def hAs (i : Nat) (m : Addr → Addr → SM) : HM := fun er δ k => ∃ f d, er.arg = some (f, d) ∧ ∀ a dd, m a dd (δ.set i (.v (.exc a dd er.cls f d))) ⟨fun δ' => k.nx (δ'.set i .u), k.rt, fun δ' => k.bk (δ'.set i .u), fun δ' => k.ct (δ'.set i .u), fun _ _ => False⟩
def hsM (isa : Str → Str → Bool) : List (Str × HM) → Er → SM
  | [], er => fun δ k => k.er δ er
  | (c, h) :: r, er => fun δ k => if isa er.cls c = true then h er δ k else hsM isa r er δ k
def sTry (names : List Str) (isa : Str → Str → Bool) (mb : SM) (hs : List (Str × HM)) : SM := fun δ k => mb δ { k with er := fun δ' er => er.cls ∈ names ∧ hsM isa hs er δ' k }
section
variable {X : Cx} {W : WX} {names : List Str} {isa : Str → Str → Bool} {hds : List ExceptHandler} {hs : List (Str × HM)} {x n : Str} {C : Addr} {b0 : Stmt} {suite sts : List Stmt} {np pos' pos : Pos} {i : Nat} {mb m : SM}
/-- e.f, e the error that the clause has caught -/
def mEF (i : Nat) (a dd : Addr) (f : Str) : TM := fun δ Q _ => ∃ nm d, δ[i]? = some (.v (.exc a dd nm f d)) ∧ Q d
end
end DL
set_option Elab.async false
set_option linter.all false
set_option maxRecDepth 100000
set_option maxHeartbeats 4000000
/-! DL26: x += e; tables of classes; fields' names. -/
namespace DL
open PySem PySem.Spec PyProof.Rows L2
theorem fo_value : FldOk "value" := ⟨fun _ _ _ _ _ _ _ _ _ _ _ _ _ _ => rfl, by decide +kernel, fun _ _ _ _ => rfl, fun _ _ _ _ => rfl, by decide, fun _ _ _ _ _ _ => rfl, fun _ _ _ _ _ _ => rfl⟩
variable [TabsC]
section
variable {X : Cx} {W : WX} {e : Expr} {ba : Bool} {ma : TM} {pos pos' : Pos} {x : Str} {op : Operator}
/-! ### x += e, of ints -/
def fI2 (g : Int → Int → Int) (x y : D) (Q : D → Prop) : Prop := match x, y with
  | .int i, .int j => Q (.int (g i j))
  | _, _ => False
theorem e_fI2 {g : Int → Int → Int} {i j : Int} {Q : D → Prop} : fI2 g (.int i) (.int j) Q = Q (.int (g i j)) := rfl
abbrev fAugAdd := fI2 fun i j => i + j
abbrev fAugSub := fI2 fun i j => i - j
def sAug (i : Nat) (f : D → D → (D → Prop) → Prop) (ma : TM) : SM := fun δ k => ∃ x, δ[i]? = some (.v x) ∧ ma δ (fun y => f x y fun d => k.nx (δ.set i (.v d))) (k.er δ)
end
/-! ### tables of classes -/
theorem HIsa.of {K : PySem.W.Frag} {names : List Str} {isa : Str → Str → Bool} (tbl : List (Str × Addr)) (h1 : names = tbl.map (·.1)) (hns : ∀ p ∈ tbl, PySem.W.nsIn K mainGlobals p.1 = some (some (.ref p.2)))
    (h2 : (tbl.all fun p => tbl.all fun q => decide (PySem.W.exmOne K (.ref p.2) (.ref q.2) = some (isa p.1 q.1))) = true) : HIsa K names isa := by
  refine ⟨fun n c Cn Cc hn hc en ec => ?_⟩
  rw [h1] at hn hc
  obtain ⟨p, hp, rfl⟩ := List.mem_map.mp hn
  obtain ⟨q, hq, rfl⟩ := List.mem_map.mp hc
  have ep := hns p hp
  have eq := hns q hq
  rw [ep] at en
  rw [eq] at ec
  cases en
  cases ec
  exact of_decide_eq_true (List.all_eq_true.mp (List.all_eq_true.mp h2 p hp) q hq)
def insTyB (K : PySem.W.Frag) (C : Addr) : Bool := PySem.W.plainGet K C Str.empty && (PySem.W.hasDictIn K C && (PySem.W.plainOver K C && (decide (PySem.W.findIn K (.ref C) "__setattr__" = some (some (.builtin "object.__setattr__"))) && (decide (PySem.W.findIn K (.ref C) "__class__" = some (some (.builtin "object.__class__"))) &&
  (decide (PySem.W.specialIn K (.builtin "object.__class__") "__get__" = some (some (.builtin "getset_descriptor.__get__"))) && (decide (PySem.W.takesIn K (.builtin "object.__class__") = some true) && decide (PySem.W.mroIn K C (.type "object") = some true)))))))
theorem insTy_of {K : PySem.W.Frag} {C : Addr} (h : insTyB K C = true) : InsTy K C := by
  unfold insTyB at h
  simp only [Bool.and_eq_true, decide_eq_true_eq] at h
  obtain ⟨a, b, c, d, e, f, g, i⟩ := h
  exact ⟨⟨a, b, c, d⟩, e, f, g, i⟩
theorem KitOwn.of {K : PySem.W.Frag} {others : List Str} (tbl : List (Str × Addr)) (h1 : others = tbl.map (·.1)) (nd : others.Nodup) (hns : ∀ p ∈ tbl, PySem.W.nsIn K mainGlobals p.1 = some (some (.ref p.2)))
    (h2 : (tbl.all fun p => tbl.all fun q => decide (PySem.W.kitOne K (.ref p.2) (.ref q.2) = some (decide (p.1 = q.1)))) = true) (h3 : (tbl.all fun p => insTyB K p.2) = true) : KitOwn K others := by
  refine ⟨fun m n Cm Cn hm hn em en => ?_, fun m Cm hm em => ?_⟩
  · rw [h1] at hm hn
    obtain ⟨p, hp, rfl⟩ := List.mem_map.mp hm
    obtain ⟨q, hq, rfl⟩ := List.mem_map.mp hn
    have ep := hns p hp
    have eq := hns q hq
    rw [ep] at em
    rw [eq] at en
    cases em
    cases en
    exact of_decide_eq_true (List.all_eq_true.mp (List.all_eq_true.mp h2 p hp) q hq)
  · rw [h1] at hm
    obtain ⟨p, hp, rfl⟩ := List.mem_map.mp hm
    have ep := hns p hp
    rw [ep] at em
    cases em
    exact insTy_of (List.all_eq_true.mp h3 p hp)
end DL
set_option Elab.async false
set_option linter.all false
set_option maxRecDepth 100000
set_option maxHeartbeats 4000000
/-! DL27: the sorted set of ints as a plain list; chains as pairwise divisions. -/
namespace DL
open PySem PySem.Spec PyProof.Rows L2
variable [TabsC]
def insL (x : Int) : List Int → List Int
  | [] => [x]
  | y :: r => if x < y then x :: y :: r else if x = y then y :: r else y :: insL x r
def setL (xs : List Int) : List Int := xs.foldr insL []
theorem insL_mem {x k : Int} : ∀ {r : List Int}, k ∈ insL x r ↔ k = x ∨ k ∈ r
  | [] => by simp [insL]
  | y :: r => by
    have ih := @insL_mem x k r
    unfold insL
    split
    · simp
    · split
      · rename_i h; subst h; simp
      · simp only [List.mem_cons, ih]
        constructor
        · rintro (h | h | h)
          · exact .inr (.inl h)
          · exact .inl h
          · exact .inr (.inr h)
        · rintro (h | h | h)
          · exact .inr (.inl h)
          · exact .inl h
          · exact .inr (.inr h)
theorem insL_pair {x : Int} : ∀ {r : List Int}, r.Pairwise (· < ·) → (insL x r).Pairwise (· < ·)
  | [], _ => by simp [insL]
  | y :: r, h => by
    have h' := List.pairwise_cons.mp h
    unfold insL
    split
    · rename_i hx
      refine List.pairwise_cons.mpr ⟨fun k hk => ?_, h⟩
      rcases List.mem_cons.mp hk with rfl | hk
      · exact hx
      · exact Int.lt_trans hx (h'.1 k hk)
    · split
      · exact h
      · refine List.pairwise_cons.mpr ⟨fun k hk => ?_, insL_pair h'.2⟩
        rcases insL_mem.mp hk with rfl | hk
        · omega
        · exact h'.1 k hk
theorem setL_pair : ∀ {xs : List Int}, (setL xs).Pairwise (· < ·)
  | [] => List.Pairwise.nil
  | x :: r => insL_pair (setL_pair (xs := r))
theorem setL_mem {k : Int} : ∀ {xs : List Int}, k ∈ setL xs ↔ k ∈ xs
  | [] => Iff.rfl
  | x :: r => by
    show k ∈ insL x (setL r) ↔ _
    rw [insL_mem, setL_mem (xs := r), List.mem_cons]
theorem asc_ext : ∀ {xs ys : List Int}, xs.Pairwise (· < ·) → ys.Pairwise (· < ·) → (∀ k, k ∈ xs ↔ k ∈ ys) → xs = ys
  | [], [], _, _, _ => rfl
  | [], y :: r, _, _, h => by have := (h y).mpr List.mem_cons_self; cases this
  | x :: r, [], _, _, h => by have := (h x).mp List.mem_cons_self; cases this
  | x :: r, y :: t, hx, hy, h => by
    have hx' := List.pairwise_cons.mp hx
    have hy' := List.pairwise_cons.mp hy
    have e : x = y := by
      rcases List.mem_cons.mp ((h x).mp List.mem_cons_self) with e | m
      · exact e
      · rcases List.mem_cons.mp ((h y).mpr List.mem_cons_self) with e | m'
        · exact e.symm
        · have := hy'.1 x m; have := hx'.1 y m'; omega
    subst e
    refine congrArg (x :: ·) (asc_ext hx'.2 hy'.2 fun k => ⟨fun m => ?_, fun m => ?_⟩)
    · rcases List.mem_cons.mp ((h k).mp (List.mem_cons_of_mem _ m)) with e | m'
      · have := hx'.1 k m; omega
      · exact m'
    · rcases List.mem_cons.mp ((h k).mpr (List.mem_cons_of_mem _ m)) with e | m'
      · have := hy'.1 k m; omega
      · exact m'
theorem setL_of {ms xs : List Int} (h : ms.Pairwise (· < ·)) (hm : ∀ k, k ∈ ms ↔ k ∈ xs) : ms = setL xs := asc_ext h setL_pair fun k => (hm k).trans setL_mem.symm
theorem setL_congr {xs ys : List Int} (h : ∀ k, k ∈ xs ↔ k ∈ ys) : setL xs = setL ys := setL_of setL_pair fun k => setL_mem.trans (h k)
theorem pair_asc : ∀ {ns : List Int}, ascL ns = true → ns.Pairwise (· < ·)
  | [], _ => List.Pairwise.nil
  | [x], _ => by simp
  | x :: y :: r, h => by
    have h1 : (decide (x < y) && ascL (y :: r)) = true := h
    rw [Bool.and_eq_true, decide_eq_true_eq] at h1
    have ih := pair_asc h1.2
    refine List.pairwise_cons.mpr ⟨fun k hk => ?_, ih⟩
    rcases List.mem_cons.mp hk with rfl | hk
    · exact h1.1
    · exact Int.lt_trans h1.1 ((List.pairwise_cons.mp ih).1 k hk)
theorem gapL_cons {x y : Int} {r : List Int} : gapL (x :: y :: r) = if y % x = 0 then gapL (y :: r) else some (x, y) := by
  show (((x, y) :: nb (y :: r)).find? fun p => decide (p.2 % p.1 ≠ 0)) = _
  rw [List.find?_cons]
  by_cases h : y % x = 0
  · rw [if_pos h, show decide ((x, y).2 % (x, y).1 ≠ 0) = false from decide_eq_false (fun z => z h)]
    rfl
  · rw [if_neg h, show decide ((x, y).2 % (x, y).1 ≠ 0) = true from decide_eq_true h]
theorem pair_gap : ∀ {ns : List Int}, gapL ns = none → ns.Pairwise (· ∣ ·)
  | [], _ => List.Pairwise.nil
  | [x], _ => by simp
  | x :: y :: r, h => by
    rw [gapL_cons] at h
    split at h
    · rename_i hd
      have ih := pair_gap h
      have hd := Int.dvd_of_emod_eq_zero hd
      refine List.pairwise_cons.mpr ⟨fun k hk => ?_, ih⟩
      rcases List.mem_cons.mp hk with rfl | hk
      · exact hd
      · exact Int.dvd_trans hd ((List.pairwise_cons.mp ih).1 k hk)
    · cases h
theorem asc_sub : ∀ {xs ys : List Int}, xs.Pairwise (· < ·) → ys.Pairwise (· < ·) → (∀ k, k ∈ xs → k ∈ ys) → xs.Sublist ys
  | [], ys, _, _, _ => List.nil_sublist _
  | x :: r, [], _, _, h => by have := h x List.mem_cons_self; cases this
  | x :: r, y :: t, hx, hy, h => by
    have hx' := List.pairwise_cons.mp hx
    have hy' := List.pairwise_cons.mp hy
    by_cases e : x = y
    · subst e
      refine (asc_sub hx'.2 hy'.2 fun k m => ?_).cons₂ x
      rcases List.mem_cons.mp (h k (List.mem_cons_of_mem _ m)) with e | m'
      · have := hx'.1 k m; omega
      · exact m'
    · have hxt : x ∈ t := by
        rcases List.mem_cons.mp (h x List.mem_cons_self) with e' | m
        · exact absurd e' e
        · exact m
      refine (asc_sub hx hy'.2 fun k m => ?_).cons y
      rcases List.mem_cons.mp (h k m) with e' | m'
      · rcases List.mem_cons.mp m with e2 | m2
        · exact absurd (e2.symm.trans e') e
        · have := hx'.1 k m2; have := hy'.1 x hxt; omega
      · exact m'
theorem fineP (p : Int × Int) : fineN 1 (pairD p) := fineN_tup fun d hd => by
  simp only [List.mem_cons, List.not_mem_nil, or_false] at hd
  rcases hd with rfl | rfl <;> exact fineN_int
end DL
set_option Elab.async false
set_option linter.all false
set_option maxRecDepth 100000
set_option maxHeartbeats 4000000
/-! DL28: three names set side by side. -/
namespace DL
open PySem PySem.Spec PyProof.Rows L2
variable [TabsC]
section
variable {X : Cx} {W : WX} {a b c e : Expr} {la : LM} {ba : Bool} {pos : Pos}
def sPar3 (i j l : Nat) (la : LM) : SM := fun δ k => la δ (fun ds => ∃ d e f, ds = [d, e, f] ∧ k.nx (((δ.set i (.v d)).set j (.v e)).set l (.v f))) (k.er δ)
end
theorem ex3 {α β γ : Type} {a : α} {b : β} {c : γ} {P : α → β → γ → Prop} : (∃ x y z, (a = x ∧ b = y ∧ c = z) ∧ P x y z) = P a b c := propext ⟨fun ⟨_, _, _, ⟨e, e', e''⟩, h⟩ => by subst e e' e''; exact h, fun h => ⟨a, b, c, ⟨rfl, rfl, rfl⟩, h⟩⟩
end DL
set_option Elab.async false
set_option linter.all false
set_option maxRecDepth 100000
set_option maxHeartbeats 4000000
/-! DL29: dicts: in, len, list(d), tuple(d), sorted(d), dict(d), dict(pairs), list(d.items()). -/
namespace DL
open PySem PySem.Spec PyProof.Rows L2
variable [TabsC]
/-! ### in, len -/
def rInY (K : PySem.W.Frag) (neg : Bool) : R2 := fun x y H Q => (∃ a o, y = .ref a ∧ DGet H a x o ∧ Q (.bl (neg ^^ o.isSome)) H) ∨ rInX K neg x y H Q
section
variable {X : Cx}
theorem op_inY (hu : X.A.units + 65 < cLine) : OpR X (compareOp .In) (rInY X.K false) := by
  intro pins s σ H x y v u Q I rx ry h
  rcases h with ⟨a, o, rfl, g, q⟩ | h
  · obtain rfl : u = Value.ref a := ry
    exact d_in (by omega) I g rx fun s' I' => ⟨.bl o.isSome, H, I', rfl, by simpa using q⟩
  · exact op_inX hu pins s σ H x y v u Q I rx ry h
def fInY (neg : Bool) (x y : D) (Q : Bool → Prop) : Prop := match y with
  | .dict ds => ∃ key : Key, x = keyD key ∧ Q (neg ^^ (valD ds key).isSome)
  | y => fInX neg x y Q
theorem link_inY {neg : Bool} : LinkCmp X.K (rInY X.K neg) (fInY neg) := by
  intro fo ls H x y dx dy P Q rx ry h q
  unfold fInY at h
  split at h
  · obtain ⟨key, e, h⟩ := h
    subst e
    rw [kV_of rx]
    obtain ⟨a, kvs, rfl, h1, h2, h3⟩ := ry.dict
    refine .inl ⟨a, valV kvs key, rfl, .inl ⟨kvs, key, h1, rfl, rfl⟩, ?_⟩
    rename_i ds
    cases e : valD ds key with
    | none =>
      rw [h3.none key e]
      rw [e] at h
      exact q _ h
    | some w =>
      obtain ⟨u, hu', ru⟩ := h3.val key e
      rw [hu']
      rw [e] at h
      exact q _ h
  · exact .inr (link_inX fo ls H x y dx _ P Q rx ry h q)
def fLenY (ds : List D) (Q : D → Prop) : Prop := match ds with
  | [.dict kvs] => Q (.int kvs.length)
  | ds => fLen ds Q
/-! ### list(d) -/
theorem keys_vals {kvs : List (Key × V)} {vs : List (Key × Value)} (rk : KV kvs vs) {us : List Value} (hl : us.length = vs.length) (hi : ∀ (j : Nat) (u : Value), us[j]? = some u → ∃ k y, vs[j]? = some (k, y) ∧ keyIs k u = true) : Vals (kvs.map fun kv => kV kv.1) us := by
  refine vals_of_at (by rw [List.length_map, rk.length, hl]) fun j x w h1 h2 => ?_
  obtain ⟨k, y, hky, hi'⟩ := hi j w h2
  have e1 : (kvs.map (·.1))[j]? = some k := by rw [rk.keys, List.getElem?_map, hky] <;> rfl
  have e3 : (kvs.map fun kv => kV kv.1) = (kvs.map (·.1)).map kV := by rw [List.map_map] <;> rfl
  rw [e3, List.getElem?_map, e1] at h1
  cases h1
  exact keyIs_rel hi'
end
theorem RepKs.keysR {K : PySem.W.Frag} {H : Hp} : ∀ {vs : List (Key × V)} {ds : List (Key × D)}, RepKs K H vs ds → Reps K H (vs.map fun kv => kV kv.1) (ds.map fun kv => keyD kv.1)
  | _, _, .nil => .nil
  | _, _, .cons h r => .cons (rep_key _) r.keysR
section
variable {X : Cx}
def fListY (ds : List D) (Q : D → Prop) : Prop := match ds with
  | [.dict kvs] => Q (.list (kvs.map fun kv => keyD kv.1))
  | ds => fList ds Q
end
/-! ### tuple(d) -/
section
variable {X : Cx}
def fTupleY (ds : List D) (Q : D → Prop) : Prop := match ds with
  | [.dict kvs] => Q (.tup (kvs.map fun kv => keyD kv.1))
  | ds => fTuple ds Q
/-! ### sorted(d), dict(d), dict(pairs) -/
end
end DL
set_option Elab.async false
set_option linter.all false
set_option maxRecDepth 100000
set_option maxHeartbeats 4000000
/-! DL30: dict comprehensions, list(d.items()), sums, == of dicts. -/
namespace DL
open PySem PySem.Spec PyProof.Rows L2
variable [TabsC]
def compD (g : GM) (mt : BM) (mk mv : TM) (δ0 : List DV) : List D → List (Key × D) → (D → Prop) → Prop
  | [], acc, Q => Q (.dict acc)
  | d :: ds, acc, Q => g d δ0 fun δ' => mt δ' (fun b => if b = true then mk δ' (fun kd => mv δ' (fun v => ∃ key : Key, kd = keyD key ∧ compD g mt mk mv δ0 ds (putD acc key v) Q) NoE) NoE else compD g mt mk mv δ0 ds acc Q) NoE
def mCompD (vs : List Nat) (mi : LM) (g : GM) (mt : BM) (mk mv : TM) : TM := fun δ Q E => mi δ (fun ds => compD g mt mk mv (wipeD δ vs) ds [] Q) E
def mListItems (ma : TM) : TM := fun δ Q E => ma δ (fun d => ∃ ds : List (Key × D), d = .dict ds ∧ Q (.list (ds.map pairKD))) E
end DL
set_option Elab.async false
set_option linter.all false
set_option maxRecDepth 100000
set_option maxHeartbeats 4000000
/-! DL31: == of dicts whose values are ints. -/
namespace DL
open PySem PySem.Spec PyProof.Rows L2
variable [TabsC]
def intsK (ds : List (Key × D)) : Prop := ∀ p, p ∈ ds → ∃ i : Int, p.2 = .int i
def sameD : D → D → Bool
  | .int i, .int j => i == j
  | _, _ => false
def eqK (ds es : List (Key × D)) : Bool := ds.length == es.length && ds.all fun p => match valD es p.1 with
  | some w => sameD p.2 w
  | none => false
def fEqY (x y : D) (Q : Bool → Prop) : Prop := match x, y with
  | .dict ds, .dict es => intsK ds ∧ intsK es ∧ Q (eqK ds es)
  | x, y => fEq x y Q
def fNeY (x y : D) (Q : Bool → Prop) : Prop := match x, y with
  | .dict ds, .dict es => intsK ds ∧ intsK es ∧ Q (!eqK ds es)
  | x, y => fNe x y Q
end DL
set_option Elab.async false
set_option linter.all false
set_option maxRecDepth 100000
set_option maxHeartbeats 4000000
/-! DL32: operators of own instances: ==, !=, in, len, str. -/
namespace DL
open PySem PySem.Spec PyProof.Rows L2
variable [TabsC]
section
variable {prog : Program} {w : World} {A : Around} {E : Value → Shared → Prop} {s : Shared} {K : PySem.W.Frag} {x C L f : Addr} {h₀ : Heap} {m : Str → Option Value} {ox : Obj} {od : Option Obj} {b tb : Value}
/-- a special method that the library gives, where it is bound -/
theorem ifBound_lib {M : Model} {args : List Value} {name : Str} {id : String} {Q : Option Value → Shared → Prop} (X : K.In s.heap) (I : PySem.W.InstAt s.heap x ox C od) (hs : PySem.W.findIn K (.ref C) name = some (some (.builtin id)))
    (hb : ∀ self, bindSpecial (.builtin id) self = pure (.builtin id, [self])) (h : wpAny M A (call (.builtin id) (.ref x :: args)) (fun v => Q (some v)) E s) : wpAny M A (callSpecialIfBound? (.ref x) name args) Q E s := by
  simp only [callSpecialIfBound?, bindSpecialIfBound?]
  refine wpAny_holding (wpAny_bind (wpAny_bind (wpAny_bind (I.type.here ((PySem.W.looks_findIn X hs).here ?_)))))
  refine wpAny_bind (wpAny_askSetting (wpAny_ite ?_))
  have last : wpAny M A (call (.builtin id) ([.ref x] ++ args) >>= fun v => pure (some v)) Q E s := wpAny_bind (wpAny_mono h (fun v s' h' => wpAny_pure h') fun _ _ h' => h')
  split
  · exact wpAny_bind ((PySem.W.Looks.of_pure (hb _)).here (wpAny_pure (by exact last)))
  · exact wpAny_tryCatch (wpAny_bind ((PySem.W.Looks.of_pure (hb _)).here (wpAny_pure (by exact last))))
theorem ne_body {Q : PySem.Fin → Shared → Prop} (hu : A.units < cLine) (X : K.In s.heap) (I : PySem.W.InstAt s.heap x ox C od) (hs : PySem.W.findIn K (.ref C) "__eq__" = some (some (.ref f))) (hf : PySem.W.isFn K (.ref f) = true)
    (h : wpAny (model prog w) A (call (.ref f) [.ref x, b]) (fun v s' => ∃ c, v = .bool c ∧ Q (.done (.ret (.bool (!c)))) s') E s) : wpAny (model prog w) A (Builtin.«object.__ne__» ⟨[.ref x, b], []⟩) Q E s := by
  unfold Builtin.«object.__ne__»
  refine wpAny_bind (m := slotArgs "__ne__" 1 _) (wpAny_pure ?_)
  refine wpAny_bind (m := cRoomFor _ _) (wpAny_cRoomFor hu ?_)
  refine wpAny_bind (m := callSpecialIfBound? (.ref x) (Str.ofString "__eq__") _) (PySem.W.ifBound_K X I hs hf (wpAny_mono h (fun r s' hr => ?_) fun _ _ e => e))
  obtain ⟨c, rfl, hq⟩ := hr
  exact wpAny_bind (wpAny_truthy_bool (wpAny_pure hq))
theorem own_ne {Q : Value → Shared → Prop} (hu : A.units < cLine) (hu1 : A.in1.units < cLine) (X : K.In s.heap) (I : PySem.W.InstAt s.heap x ox C od) (hb : PySem.W.Looks (model prog w) s.heap (typeOf b) tb) (hn : PySem.W.notFirst K C tb = true)
    (hne : PySem.W.findIn K (.ref C) "__ne__" = some (some (.builtin "object.__ne__"))) (hm : PySem.W.mroIn K C (.type "object") = some true) (hs : PySem.W.findIn K (.ref C) "__eq__" = some (some (.ref f))) (hf : PySem.W.isFn K (.ref f) = true)
    (h : wpAny (model prog w) A.in1 (call (.ref f) [.ref x, b]) (fun v s' => ∃ c, v = .bool c ∧ Q (.bool (!c)) s') E s) : wpAny (model prog w) A (richCompare .NotEq (.ref x) b) Q E s := by
  have one : wpAny (model prog w) A (tryCompare (.ref x) "__ne__" b) (fun r s' => ∃ v, r = some v ∧ Q v s') E s := by
    unfold tryCompare
    refine wpAny_bind (ifBound_lib X I hne PySem.F.slot_tuple_iterator_ne.bind (wpAny_call (codeAny_call_builtin PySem.F.slot_tuple_iterator_ne.plain PySem.F.cmpEntry_ne
      (PySem.W.check_slot (i := "object.__ne__") (owner := "object") (n := "__ne__") PySem.F.cmpKind_ne PySem.F.cmpSplit_ne (I.type.andThen (PySem.W.looks_mroIn X hm)) (PySem.F.cmpArgs_ne _ _)
        (ne_body (A := A.in1) hu1 X I hs hf (wpAny_mono h (fun v s' hv => ?_) fun _ _ e => e))))))
    obtain ⟨c, rfl, hq⟩ := hv
    exact ⟨c, rfl, wpAny_pure ⟨_, rfl, hq⟩⟩
  unfold richCompare
  simp only [oneThing_ref]
  refine wpAny_holding (wpAny_bind (wpAny_cRoomFor hu ?_))
  refine wpAny_bind (I.type.here (wpAny_bind (hb.here ?_)))
  have out : wpAny (model prog w) A (tryCompare (.ref x) "__ne__" b) (fun r s' => ∃ v, r = some v ∧ Q v s') E s := one
  split
  · rename_i q
    have e : PySem.W.subIn K tb (.ref C) = some false := by
      rcases Bool.or_eq_true_iff.mp hn with e | e
      · rw [beq_iff_eq.mp e] at q; simp at q
      · exact beq_iff_eq.mp e
    refine wpAny_bind ((PySem.W.looks_subIn X e).here ?_)
    rw [if_neg Bool.false_ne_true]
    refine wpAny_bind (wpAny_mono out (fun r s' z => ?_) fun _ _ e => e)
    obtain ⟨v, rfl, hq⟩ := z
    exact wpAny_pure hq
  · refine wpAny_bind (wpAny_pure ?_)
    rw [if_neg Bool.false_ne_true]
    refine wpAny_bind (wpAny_mono out (fun r s' z => ?_) fun _ _ e => e)
    obtain ⟨v, rfl, hq⟩ := z
    exact wpAny_pure hq
end
/-! ### what a call of an own method gives, from data -/
section
variable {X : Cx} {pins : List (Addr × Obj)} {σ : L2.St} {H : Hp} {s : Shared} {k : Nat} {g : Addr} {m : FM} {vs : List V} {us : List Value} {E : Value → Shared → Prop}
theorem run_own {A : Around} {Q : Value → Shared → Prop} (F : FnD X.prog X.w X.K X.mg X.base k g m) (hG : GdOk A X.base) (hr : Room k A) (e0 : Env0 X.prog X.w X.K X.mg X.base A X.stack s H) (I : Inv X pins σ H s) (r : Vals vs us)
    {R : V → Hp → Prop} (sp : spD X.K m vs H (fun v H' => R v H') (fun _ _ _ => False)) (q : ∀ v u H' s', Inv X pins σ H' s' → RelV v u → R v H' → Q u s') : wpAny (model X.prog X.w) A (call (.ref g) us) Q E s := by
  refine wpAny_call (codeAny_mono (F A X.stack s H us vs _ _ hG hr e0 r sp) fun r s2 hq => ?_)
  cases r with
  | error er => exact (CR_none (fun _ _ _ z => z) hq).elim
  | ok fl =>
    cases fl with
    | ret u =>
      obtain ⟨v, H', I3, rv, q3⟩ := I.after hq
      exact q v u H' s2 I3 rv q3
    | next => exact False.elim hq
    | brk => exact False.elim hq
    | cont => exact False.elim hq
/-- a value's kind, and that it does not come first -/
def TyN (K : PySem.W.Frag) (C : Addr) (H : Hp) (y : V) : Prop := ∃ t, TyX K H y t ∧ PySem.W.notFirst K C t = true
/-- what the written part says of a class with its own == -/
structure EqO (K : PySem.W.Frag) (C g : Addr) : Prop where
  fn : PySem.W.isFn K (.ref g) = true
  eq : PySem.W.findIn K (.ref C) "__eq__" = some (some (.ref g))
  ne : PySem.W.findIn K (.ref C) "__ne__" = some (some (.builtin "object.__ne__"))
  mo : PySem.W.mroIn K C (.type "object") = some true
def rEqO (K : PySem.W.Frag) (C : Addr) (m : FM) (neg : Bool) : R2 := fun x y H Q => ∃ a dx vs, x = .ref a ∧ H a = some (.ins C dx vs) ∧ TyN K C H y ∧ spD K m [x, y] H (fun v H' => ∃ c, v = .bl c ∧ Q (.bl (neg ^^ c)) H') (fun _ _ _ => False)
theorem op_eqO {C : Addr} (T : EqO X.K C g) (F : FnD X.prog X.w X.K X.mg X.base k g m) (hG : GdOk X.A X.base) (hr : Room (k + 1) X.A) : OpR X (compareOp .Eq) (rEqO X.K C m false) := by
  intro pins s σ H x y v u Q I rx ry ⟨a, dx, fs, ex, ha, ⟨t, ty, hn⟩, sp⟩
  subst ex
  obtain rfl : v = Value.ref a := rx
  obtain ⟨mA, O, _, _, _, _⟩ := ins_get I.hok ha
  obtain ⟨od, J, _⟩ := O.look
  obtain ⟨P, Z, hP, _⟩ := kit_of I ry ty
  obtain ⟨mm, hF⟩ := I.fr
  refine PySem.W.cmp_K (op := .Eq) (tb := t) hr.units0 hF I.ok.mod.kin J (Z.ty _ _ I.kIn hP) hn T.eq T.fn ?_
  refine run_own F hG (hr.mono (Nat.le_succ k)) I.env0 I (vs := [V.ref a, y]) (.cons rfl (.cons ry .nil)) sp fun v u H' s' I' rv ⟨c, ev, q⟩ => ?_
  subst ev
  cases rv
  exact ⟨.bl c, H', I', rfl, by simpa using q⟩
theorem op_neO {C : Addr} (T : EqO X.K C g) (F : FnD X.prog X.w X.K X.mg X.base k g m) (hG : GdOk X.A X.base) (hr : Room (k + 1) X.A) : OpR X (compareOp .NotEq) (rEqO X.K C m true) := by
  intro pins s σ H x y v u Q I rx ry ⟨a, dx, fs, ex, ha, ⟨t, ty, hn⟩, sp⟩
  subst ex
  obtain rfl : v = Value.ref a := rx
  obtain ⟨mA, O, _, _, _, _⟩ := ins_get I.hok ha
  obtain ⟨od, J, _⟩ := O.look
  obtain ⟨P, Z, hP, _⟩ := kit_of I ry ty
  refine own_ne hr.units0 hr.in1.units0 I.kIn J (Z.ty _ _ I.kIn hP) hn T.ne T.mo T.eq T.fn ?_
  refine run_own F hG hr.in1 I.env0.in1 I (vs := [V.ref a, y]) (.cons rfl (.cons ry .nil)) sp fun v u H' s' I' rv ⟨c, ev, q⟩ => ?_
  subst ev
  cases rv
  exact ⟨c, rfl, .bl (!c), H', I', rfl, by simpa using q⟩
end
/-! ### o == e, o != e -/
def okB (others : List Str) (b : D) : Prop := b.tyn.isSome = true ∨ ∃ m fs, b = .obj m fs ∧ m ∈ others
def firstAll (K : PySem.W.Frag) (C : Addr) : Bool := ownTys.all fun t => PySem.W.notFirst K C (.type t)
def FirstOwn (K : PySem.W.Frag) (others : List Str) : Prop := ∀ (m n : Str) (Cm Cn : Addr), m ∈ others → n ∈ others → PySem.W.nsIn K mainGlobals m = some (some (.ref Cm)) → PySem.W.nsIn K mainGlobals n = some (some (.ref Cn)) → PySem.W.notFirst K Cn (.ref Cm) = true
theorem FirstOwn.of {K : PySem.W.Frag} {others : List Str} (tbl : List (Str × Addr)) (h1 : others = tbl.map (·.1)) (hns : ∀ p ∈ tbl, PySem.W.nsIn K mainGlobals p.1 = some (some (.ref p.2)))
    (h2 : (tbl.all fun p => tbl.all fun q => PySem.W.notFirst K q.2 (.ref p.2)) = true) : FirstOwn K others := by
  intro m n Cm Cn hm hn em en
  rw [h1] at hm hn
  obtain ⟨p, hp, rfl⟩ := List.mem_map.mp hm
  obtain ⟨q, hq, rfl⟩ := List.mem_map.mp hn
  have ep := hns p hp
  have eq := hns q hq
  rw [ep] at em
  rw [eq] at en
  cases em
  cases en
  exact List.all_eq_true.mp (List.all_eq_true.mp h2 p hp) q hq
section
variable {X : Cx} {W : WX} {a b e : Expr} {ba bb : Bool} {ma mb : TM} {n : Str} {C g : Addr} {k : Nat} {m : FM} {pos p : Pos} {others : List Str} {FF : Fm} {own : List Addr}
theorem tyN_of {H : Hp} {y : V} {d : D} (hC : PySem.W.nsIn X.K mainGlobals n = some (some (.ref C))) (hf : firstAll X.K C = true) (ho : FirstOwn X.K others) (ik : KitOwn X.K others) (hi : n ∈ others) (r : RV X.K FF.ls0 (FF.ls0 ++ own) H false y d) (ok : okB others d) : TyN X.K C H y := by
  rcases ok with hd | ⟨m', fs, rfl, hm'⟩
  · obtain ⟨t, ht⟩ := Option.isSome_iff_exists.mp hd
    exact ⟨.type t, tyx_rv r ht, List.all_eq_true.mp hf t (tyn_mem ht)⟩
  · obtain ⟨C', a, dx, vs, hC', rfl, h1, h2⟩ := r.obj
    have T := ik.ins m' C' hm' hC'
    exact ⟨.ref C', .base (.ins h1 T.cl T.fc T.sg T.tk T.mo), ho m' n C' C hm' hi hC' hC⟩
def mEqO (n : Str) (others : List Str) (neg : Bool) (m : FM) (ma mb : TM) : TM := fun δ Q E => ma δ (fun a => mb δ (fun b => ∃ fs : List (Str × D), a = .obj n fs ∧ okB others b ∧ m [a, b] (fun r => ∃ c, r = .bool c ∧ Q (.bool (neg ^^ c))) NoE) E) E
theorem eqO_reading {neg : Bool} {σ : L2.St} {H : Hp} {Q : VK} (hC : PySem.W.nsIn X.K mainGlobals n = some (some (.ref C))) (hf : firstAll X.K C = true) (ho : FirstOwn X.K others) (ik : KitOwn X.K others) (hi : n ∈ others)
    (h : tm X.K W false (mEqO n others neg m ma mb) σ H Q) : tOp (rEqO X.K C m neg) (tm X.K W false ma) (tm X.K W false mb) σ H Q := by
  obtain ⟨F, own, δ, P, EK, A, mm, q⟩ := h
  refine ⟨F, own, δ, _, EK, A, mm, fun d x H1 m1 s1 r1 => ⟨F, own, δ, _, EK, A.on s1, m1, fun d2 y H2 ⟨fs, ed, ok, m2⟩ s2 r2 => ?_⟩⟩
  subst ed
  have A2 := (A.on s1).on s2
  have r1' := r1.clean.mono (sub_same s2.ob)
  obtain ⟨C', a, dx, vs, hC', rfl, h1, h2⟩ := (RV.cl r1' : RV X.K F.ls0 (F.ls0 ++ own) H2 false x _).obj
  rw [hC] at hC'
  cases hC'
  exact ⟨a, dx, vs, rfl, h1, tyN_of hC hf ho ik hi r2 ok, F.ls0 ++ own, [.obj n fs, d2], _, NoE, A2.env.trk, A2.tabs, .cons r1' (.cons r2.clean .nil), m2, fun d v H' ⟨c, ed, pd⟩ s3 r3 => by
    subst ed
    cases r3
    exact ⟨c, rfl, q _ _ H' pd ((s1.trans s2).trans s3) (.cl (.bool _))⟩, fun _ _ _ _ z => z.elim⟩
theorem de_eqO (hC : PySem.W.nsIn X.K mainGlobals n = some (some (.ref C))) (T : EqO X.K C g) (hf : firstAll X.K C = true) (ho : FirstOwn X.K others) (ik : KitOwn X.K others) (hi : n ∈ others) (F : FnD X.prog X.w X.K X.mg X.base k g m) (hG : GdOk X.A X.base) (hr : Room (k + 1) X.A)
    (hm : behindInMarks .Eq b = false) (ha : DE X W a false ma) (hb : DE X W b false mb) : DE X W (.Compare a [.Eq] [b] pos) false (mEqO n others false m ma mb) :=
  PE.imp (pe_cmpR (op_eqO T F hG hr) ha hb hm) fun _ _ _ h => eqO_reading hC hf ho ik hi h
theorem de_neO (hC : PySem.W.nsIn X.K mainGlobals n = some (some (.ref C))) (T : EqO X.K C g) (hf : firstAll X.K C = true) (ho : FirstOwn X.K others) (ik : KitOwn X.K others) (hi : n ∈ others) (F : FnD X.prog X.w X.K X.mg X.base k g m) (hG : GdOk X.A X.base) (hr : Room (k + 1) X.A)
    (hm : behindInMarks .NotEq b = false) (ha : DE X W a false ma) (hb : DE X W b false mb) : DE X W (.Compare a [.NotEq] [b] pos) false (mEqO n others true m ma mb) :=
  PE.imp (pe_cmpR (op_neO T F hG hr) ha hb hm) fun _ _ _ h => eqO_reading hC hf ho ik hi h
theorem dt_eqO (hC : PySem.W.nsIn X.K mainGlobals n = some (some (.ref C))) (T : EqO X.K C g) (hf : firstAll X.K C = true) (ho : FirstOwn X.K others) (ik : KitOwn X.K others) (hi : n ∈ others) (F : FnD X.prog X.w X.K X.mg X.base k g m) (hG : GdOk X.A X.base) (hr : Room (k + 1) X.A)
    (hm : behindInMarks .Eq b = false) (ha : DE X W a false ma) (hb : DE X W b false mb) : DT X W (.Compare a [.Eq] [b] pos) (mTest (mEqO n others false m ma mb)) :=
  PT.imp (pt_cmpR (op_eqO T F hG hr) ha hb hm) fun σ H Q ⟨F', own, δ, P, EK, A, mm, q⟩ => eqO_reading hC hf ho ik hi ⟨F', own, δ, _, EK, A, mm, fun d v H' ⟨c, ed, pd⟩ s r => by
    subst ed
    cases r with
    | cl r => cases r; exact ⟨c, rfl, q c H' pd s⟩⟩
theorem dt_neO (hC : PySem.W.nsIn X.K mainGlobals n = some (some (.ref C))) (T : EqO X.K C g) (hf : firstAll X.K C = true) (ho : FirstOwn X.K others) (ik : KitOwn X.K others) (hi : n ∈ others) (F : FnD X.prog X.w X.K X.mg X.base k g m) (hG : GdOk X.A X.base) (hr : Room (k + 1) X.A)
    (hm : behindInMarks .NotEq b = false) (ha : DE X W a false ma) (hb : DE X W b false mb) : DT X W (.Compare a [.NotEq] [b] pos) (mTest (mEqO n others true m ma mb)) :=
  PT.imp (pt_cmpR (op_neO T F hG hr) ha hb hm) fun σ H Q ⟨F', own, δ, P, EK, A, mm, q⟩ => eqO_reading hC hf ho ik hi ⟨F', own, δ, _, EK, A, mm, fun d v H' ⟨c, ed, pd⟩ s r => by
    subst ed
    cases r with
    | cl r => cases r; exact ⟨c, rfl, q c H' pd s⟩⟩
/-! ### e in o -/
structure InO (K : PySem.W.Frag) (C g : Addr) : Prop where
  fn : PySem.W.isFn K (.ref g) = true
  at_ : PySem.W.findIn K (.ref C) "__contains__" = some (some (.ref g))
end
section
variable {X : Cx} {W : WX} {a b e : Expr} {ba bb : Bool} {ma mb : TM} {n : Str} {C g : Addr} {k : Nat} {m : FM} {pos p : Pos}
def rInO (K : PySem.W.Frag) (C : Addr) (m : FM) (neg : Bool) : R2 := fun x y H Q => ∃ a dx vs, y = .ref a ∧ H a = some (.ins C dx vs) ∧ spD K m [y, x] H (fun v H' => ∃ c, v = .bl c ∧ Q (.bl (neg ^^ c)) H') (fun _ _ _ => False)
theorem op_inO (T : InO X.K C g) (F : FnD X.prog X.w X.K X.mg X.base k g m) (hG : GdOk X.A X.base) (hr : Room k X.A) : OpR X (compareOp .In) (rInO X.K C m false) := by
  intro pins s σ H x y v u Q I rx ry ⟨a, dx, fs, ey, ha, sp⟩
  subst ey
  obtain rfl : u = Value.ref a := ry
  obtain ⟨mA, O, _, _, _, _⟩ := ins_get I.hok ha
  obtain ⟨od, J, _⟩ := O.look
  obtain ⟨mm, hF⟩ := I.fr
  refine PySem.W.in_K hF I.ok.mod.kin J T.at_ T.fn (run_own F hG hr I.env0 I (vs := [V.ref a, x]) (.cons rfl (.cons rx .nil)) sp fun v u H' s' I' rv ⟨c, ev, q⟩ => ?_)
  subst ev
  cases rv
  exact wpAny_truthy_bool ⟨.bl c, H', I', rfl, by simpa using q⟩
def mInO (n : Str) (neg : Bool) (m : FM) (ma mb : TM) : TM := fun δ Q E => ma δ (fun a => mb δ (fun b => ∃ fs : List (Str × D), b = .obj n fs ∧ m [b, a] (fun r => ∃ c, r = .bool c ∧ Q (.bool (neg ^^ c))) NoE) E) E
theorem inO_reading {neg : Bool} {σ : L2.St} {H : Hp} {Q : VK} (hC : PySem.W.nsIn X.K mainGlobals n = some (some (.ref C))) (h : tm X.K W false (mInO n neg m ma mb) σ H Q) : tOp (rInO X.K C m neg) (tm X.K W false ma) (tm X.K W false mb) σ H Q := by
  obtain ⟨F, own, δ, P, EK, A, mm, q⟩ := h
  refine ⟨F, own, δ, _, EK, A, mm, fun d x H1 m1 s1 r1 => ⟨F, own, δ, _, EK, A.on s1, m1, fun d2 y H2 ⟨fs, ed, m2⟩ s2 r2 => ?_⟩⟩
  subst ed
  have A2 := (A.on s1).on s2
  have r1' := r1.clean.mono (sub_same s2.ob)
  obtain ⟨C', a, dx, vs, hC', rfl, h1, h2⟩ := r2.obj
  rw [hC] at hC'
  cases hC'
  exact ⟨a, dx, vs, rfl, h1, F.ls0 ++ own, [.obj n fs, d], _, NoE, A2.env.trk, A2.tabs, .cons r2.clean (.cons r1' .nil), m2, fun d v H' ⟨c, ed, pd⟩ s3 r3 => by
    subst ed
    cases r3
    exact ⟨c, rfl, q _ _ H' pd ((s1.trans s2).trans s3) (.cl (.bool _))⟩, fun _ _ _ _ z => z.elim⟩
theorem de_inO (hC : PySem.W.nsIn X.K mainGlobals n = some (some (.ref C))) (T : InO X.K C g) (F : FnD X.prog X.w X.K X.mg X.base k g m) (hG : GdOk X.A X.base) (hr : Room k X.A) (hm : behindInMarks .In b = false) (ha : DE X W a false ma) (hb : DE X W b false mb) : DE X W (.Compare a [.In] [b] pos) false (mInO n false m ma mb) :=
  PE.imp (pe_cmpR (op_inO T F hG hr) ha hb hm) fun _ _ _ h => inO_reading hC h
theorem dt_inO (hC : PySem.W.nsIn X.K mainGlobals n = some (some (.ref C))) (T : InO X.K C g) (F : FnD X.prog X.w X.K X.mg X.base k g m) (hG : GdOk X.A X.base) (hr : Room k X.A) (hm : behindInMarks .In b = false) (ha : DE X W a false ma) (hb : DE X W b false mb) : DT X W (.Compare a [.In] [b] pos) (mTest (mInO n false m ma mb)) :=
  PT.imp (pt_cmpR (op_inO T F hG hr) ha hb hm) fun σ H Q ⟨F', own, δ, P, EK, A, mm, q⟩ => inO_reading hC ⟨F', own, δ, _, EK, A, mm, fun d v H' ⟨c, ed, pd⟩ s r => by
    subst ed
    cases r with
    | cl r => cases r; exact ⟨c, rfl, q c H' pd s⟩⟩
/-! ### len(o), str(o) -/
structure LenO (K : PySem.W.Frag) (C g : Addr) : Prop where
  fn : PySem.W.isFn K (.ref g) = true
  at_ : PySem.W.findIn K (.ref C) "__len__" = some (some (.ref g))
structure StrO (K : PySem.W.Frag) (C g : Addr) : Prop where
  fn : PySem.W.isFn K (.ref g) = true
  at_ : PySem.W.findIn K (.ref C) "__str__" = some (some (.ref g))
def rLenO (K : PySem.W.Frag) (C : Addr) (m : FM) : List V → Hp → VK → Prop := fun xs H Q => ∃ a dx vs, xs = [V.ref a] ∧ H a = some (.ins C dx vs) ∧ spD K m xs H (fun v H' => ∃ i : Int, v = .int i ∧ 0 ≤ i ∧ i < 2 ^ 62 ∧ Q v H') (fun _ _ _ => False)
def rStrO (K : PySem.W.Frag) (C : Addr) (m : FM) : List V → Hp → VK → Prop := fun xs H Q => ∃ a dx vs, xs = [V.ref a] ∧ H a = some (.ins C dx vs) ∧ spD K m xs H (fun v H' => ∃ z, v = .str z ∧ Q v H') (fun _ _ _ => False)
theorem call_lenO (T : LenO X.K C g) (F : FnD X.prog X.w X.K X.mg X.base k g m) (hG : GdOk X.A X.base) (hr : Room (k + 1) X.A) : CallR X (.builtin "len") (rLenO X.K C m) := by
  intro pins s σ H xs us Q I r ⟨a, dx, fs, ex, ha, sp⟩
  subst ex
  obtain ⟨u, rfl, rx⟩ := vals1 r
  obtain rfl : u = Value.ref a := rx
  obtain ⟨mA, O, _, _, _, _⟩ := ins_get I.hok ha
  obtain ⟨od, J, _⟩ := O.look
  obtain ⟨mm, hF⟩ := I.fr
  refine PySem.W.len_K hF I.ok.mod.kin J T.at_ T.fn (run_own F hG hr.in1 I.env0.in1 I (vs := [V.ref a]) (.cons rfl .nil) sp fun v u H' s' I' rv ⟨i, ev, i0, i1, q⟩ => ?_)
  subst ev
  obtain ⟨t, rfl⟩ := rv
  exact ⟨⟨i0, by omega⟩, .int i, H', I'.tok _, ⟨_, rfl⟩, q⟩
theorem call_strO (T : StrO X.K C g) (F : FnD X.prog X.w X.K X.mg X.base k g m) (hG : GdOk X.A X.base) (hr : Room (k + 2) X.A) : CallR X (.type "str") (rStrO X.K C m) := by
  intro pins s σ H xs us Q I r ⟨a, dx, fs, ex, ha, sp⟩
  subst ex
  obtain ⟨u, rfl, rx⟩ := vals1 r
  obtain rfl : u = Value.ref a := rx
  obtain ⟨mA, O, _, _, _, _⟩ := ins_get I.hok ha
  obtain ⟨od, J, _⟩ := O.look
  refine PySem.W.kso_call hr.in1.in1.units0 I.kIn J T.at_ T.fn (run_own F hG hr.in1.in1 I.env0.in1.in1 I (vs := [V.ref a]) (.cons rfl .nil) sp fun v u H' s' I' rv ⟨z, ev, q⟩ => ?_)
  subst ev
  obtain ⟨t, rfl⟩ := rv
  exact ⟨.str z, H', I', ⟨t, rfl⟩, q⟩
def mLenO (n : Str) (m : FM) (ma : TM) : TM := fun δ Q E => ma δ (fun a => ∃ fs : List (Str × D), a = .obj n fs ∧ m [a] (fun r => ∃ i : Int, r = .int i ∧ 0 ≤ i ∧ i < 2 ^ 62 ∧ Q r) NoE) E
def mStrO (n : Str) (m : FM) (ma : TM) : TM := fun δ Q E => ma δ (fun a => ∃ fs : List (Str × D), a = .obj n fs ∧ m [a] (fun r => ∃ z, r = .str z ∧ Q r) NoE) E
theorem de_lenO (hC : PySem.W.nsIn X.K mainGlobals n = some (some (.ref C))) (T : LenO X.K C g) (F : FnD X.prog X.w X.K X.mg X.base k g m) (hG : GdOk X.A X.base) (hr : Room (k + 1) X.A) (hg : Gl X "len") (hm : X.mg "len" = none) (ha : DE X W a false ma)
    (hs : starEach [a] X.env = (false, eval a X.env) :: starEach [] X.env := by rfl) (hpl : (backTo pos (starEach [] X.env)).any (·.1) = false := by rfl) : DE X W (.Call (.Name "len" p) [a] [] pos) false (mLenO n m ma) :=
  PE.imp (pe_callB (call_lenO T F hG hr) hg hm (by decide +kernel) (pa_cons ha pa_nil hs) (by decide) (by decide) hs hpl) fun σ H Q ⟨F', own, δ, P, EK, A, mm, q⟩ => ⟨F', own, δ, _, EK, A, mm, fun d v H1 ⟨fs, ed, m1⟩ s1 r1 => by
    subst ed
    have A1 := A.on s1
    obtain ⟨C', b, dx, vs, hC', rfl, h1, h2⟩ := r1.obj
    rw [hC] at hC'
    cases hC'
    exact ⟨b, dx, vs, rfl, h1, F'.ls0 ++ own, [.obj n fs], _, NoE, A1.env.trk, A1.tabs, .cons r1.clean .nil, m1, fun d v H' ⟨i, ed, i0, i1, pd⟩ s3 r3 => by
      subst ed
      cases r3
      exact ⟨i, rfl, i0, i1, q _ _ H' pd (s1.trans s3) (.cl (.int _))⟩, fun _ _ _ _ z => z.elim⟩⟩
theorem de_strO (hC : PySem.W.nsIn X.K mainGlobals n = some (some (.ref C))) (T : StrO X.K C g) (F : FnD X.prog X.w X.K X.mg X.base k g m) (hG : GdOk X.A X.base) (hr : Room (k + 2) X.A) (hg : Gl X "str") (hm : X.mg "str" = none) (ha : DE X W a false ma)
    (hs : starEach [a] X.env = (false, eval a X.env) :: starEach [] X.env := by rfl) (hpl : (backTo pos (starEach [] X.env)).any (·.1) = false := by rfl) : DE X W (.Call (.Name "str" p) [a] [] pos) false (mStrO n m ma) :=
  PE.imp (pe_callTy (call_strO T F hG hr) hg hm (by decide +kernel) (pa_cons ha pa_nil hs) (by decide) (by decide) hs hpl) fun σ H Q ⟨F', own, δ, P, EK, A, mm, q⟩ => ⟨F', own, δ, _, EK, A, mm, fun d v H1 ⟨fs, ed, m1⟩ s1 r1 => by
    subst ed
    have A1 := A.on s1
    obtain ⟨C', b, dx, vs, hC', rfl, h1, h2⟩ := r1.obj
    rw [hC] at hC'
    cases hC'
    exact ⟨b, dx, vs, rfl, h1, F'.ls0 ++ own, [.obj n fs], _, NoE, A1.env.trk, A1.tabs, .cons r1.clean .nil, m1, fun d v H' ⟨i, ed, pd⟩ s3 r3 => by
      subst ed
      cases r3
      exact ⟨i, rfl, q _ _ H' pd (s1.trans s3) (.cl (.str _))⟩, fun _ _ _ _ z => z.elim⟩⟩
end
end DL
set_option Elab.async false
set_option linter.all false
set_option maxRecDepth 100000
set_option maxHeartbeats 4000000
/-! DL33: o + e, o - e, o * e of own instances; o[e]. -/
namespace PySem.W
open Lean Elab Tactic Meta PySem PySem.Calls PyProof.Rows
end PySem.W
namespace DL
open PySem PySem.Spec PyProof.Rows L2
variable [TabsC]
section
variable {X : Cx} {W : WX} {a b e : Expr} {ba bb : Bool} {ma mb : TM} {n : Str} {C g : Addr} {k : Nat} {m : FM} {pos p : Pos} {op : Operator}
def mBinO (n : Str) (m : FM) (ma mb : TM) : TM := fun δ Q E => ma δ (fun a => mb δ (fun b => ∃ fs : List (Str × D), a = .obj n fs ∧ (b.tyn.isSome = true ∨ ∃ gs : List (Str × D), b = .obj n gs) ∧ m [a, b] Q E) E) E
end
end DL
set_option Elab.async false
set_option linter.all false
set_option maxRecDepth 100000
set_option maxHeartbeats 4000000
/-! DL34: defs whose last parameter has a default. -/
namespace DL
open PySem PySem.Spec PyProof.Rows L2
end DL
set_option Elab.async false
set_option linter.all false
set_option maxRecDepth 100000
set_option maxHeartbeats 4000000
/-! DL35: list * int, x.append(y.pop(e)), sum(d.values()), readings of dict rules. -/
namespace DL
open PySem PySem.Spec PyProof.Rows L2
variable [TabsC]
/-! ### list * int -/
theorem Reps.flat {K : PySem.W.Frag} {H : Hp} {xs : List V} {ds : List D} (r : Reps K H xs ds) : ∀ n : Nat, Reps K H (List.replicate n xs).flatten (List.replicate n ds).flatten
  | 0 => .nil
  | n + 1 => by
    rw [List.replicate_succ, List.replicate_succ, List.flatten_cons, List.flatten_cons]
    exact r.append (Reps.flat r n)
theorem flat_len {α : Type} (xs : List α) : ∀ n : Nat, (List.replicate n xs).flatten.length = xs.length * n
  | 0 => by simp
  | n + 1 => by rw [List.replicate_succ, List.flatten_cons, List.length_append, flat_len xs n, Nat.mul_succ, Nat.add_comm]
section
variable {X : Cx} {W : WX} {a b c e : Expr} {ba bb : Bool} {ma mb : TM} {pos p apos cpos : Pos}
def mRep (ma mb : TM) : TM := fun δ Q E => ma δ (fun x => mb δ (fun y => ∃ ds k, x = .list ds ∧ y = .int k ∧ -(2 ^ 62) ≤ k ∧ k < 2 ^ 62 ∧ ds.length * k.toNat ≤ sizeLine ∧ Q (.list (List.replicate k.toNat ds).flatten)) E) E
theorem df_rep (ha : DE X W a ba ma) (hb : DE X W b bb mb) : DF X W (.BinOp a .Mult b pos) (mRep ma mb) :=
  PE.imp (pe_op op_rep ha hb) fun σ H Q ⟨F, own, δ, P, EK, A, mm, q⟩ => ⟨F, own, δ, _, EK, A, mm, fun d x H1 m1 s1 r1 => ⟨F, own, δ, _, EK, A.on s1, m1, fun d2 y H2 ⟨ds, k, ed, ek, k1, k2, hz, pd⟩ s2 r2 => by
    subst ed ek
    obtain ⟨l, xs, rfl, h1, h2, h3⟩ := (r1.mono s2.ob).list
    have ek := r2.isInt
    subst ek
    have el : xs.length * k.toNat ≤ sizeLine := by rw [h3.length]; exact hz
    refine ⟨l, k, xs, rfl, rfl, h1, by omega, by omega, el, fun p hp => q _ p _ pd ((s1.trans s2).free hp) ((s1.trans s2).trans (same_upd hp)) (.l upd_same (by rw [flat_len]; exact el) ((h3.flat _).mono (sub_fresh hp (same_upd hp))))⟩⟩⟩
/-! ### x.append(y.pop(e)) -/
def sAppPop (i j : Nat) (ma : TM) : SM := fun δ k => ∃ ds, δ[i]? = some (.m (.list ds)) ∧ ∃ es, δ[j]? = some (.m (.list es)) ∧ ma δ (fun d => ∃ (n : Nat) (x : D), d = .int n ∧ es[n]? = some x ∧ ds.length < sizeLine ∧ k.nx ((δ.set j (.m (.list (es.eraseIdx n)))).set i (.m (.list (ds ++ [x]))))) (k.er δ)
end
end DL
namespace DL
open PySem PySem.Spec PyProof.Rows L2
variable [TabsC]
/-! ### sum(d.values()) -/
def mSumVals (ma : TM) : TM := fun δ Q E => ma δ (fun d => ∃ (ds : List (Key × D)) (ns : List Int), d = .dict ds ∧ ds.map (·.2) = ns.map .int ∧ Q (.int ns.sum)) E
/-! ### readings -/
theorem e_inD {neg : Bool} {x : D} {ds : List (Key × D)} {Q : Bool → Prop} : fInY neg x (.dict ds) Q = ∃ key : Key, x = keyD key ∧ Q (neg ^^ (valD ds key).isSome) := rfl
theorem e_lenD {ds : List (Key × D)} {Q : D → Prop} : fLenY [.dict ds] Q = Q (.int ds.length) := rfl
theorem e_listD {ds : List (Key × D)} {Q : D → Prop} : fListY [.dict ds] Q = Q (.list (ds.map fun kv => keyD kv.1)) := rfl
theorem e_tupD {ds : List (Key × D)} {Q : D → Prop} : fTupleY [.dict ds] Q = Q (.tup (ds.map fun kv => keyD kv.1)) := rfl
theorem e_eqD {ds es : List (Key × D)} {Q : Bool → Prop} : fEqY (.dict ds) (.dict es) Q = (intsK ds ∧ intsK es ∧ Q (eqK ds es)) := rfl
theorem e_neD {ds es : List (Key × D)} {Q : Bool → Prop} : fNeY (.dict ds) (.dict es) Q = (intsK ds ∧ intsK es ∧ Q (!eqK ds es)) := rfl
theorem e_keyI {i : Int} {P : Key → Prop} : (∃ key : Key, D.int i = keyD key ∧ P key) = P (.inl i) := by
  refine propext ⟨fun ⟨k, e, h⟩ => ?_, fun h => ⟨.inl i, rfl, h⟩⟩
  cases k with
  | inl j => injection e with e; subst e; exact h
  | inr z => injection e
theorem e_keyS {z : Str} {P : Key → Prop} : (∃ key : Key, D.str z = keyD key ∧ P key) = P (.inr z) := by
  refine propext ⟨fun ⟨k, e, h⟩ => ?_, fun h => ⟨.inr z, rfl, h⟩⟩
  cases k with
  | inl j => injection e
  | inr y => injection e with e; subst e; exact h
end DL
set_option Elab.async false
set_option linter.all false
set_option maxRecDepth 100000
set_option maxHeartbeats 4000000
/-! DL36: a, b = [..], [..], both one's own; d.get's form. -/
namespace DL
open PySem PySem.Spec PyProof.Rows L2
variable [TabsC]
section
variable {X : Cx} {W : WX} {a b e f o : Expr} {ma mb : TM} {x y : Str} {pos apos cpos : Pos}
def sParMM (i j : Nat) (ma mb : TM) : SM := fun δ k => ma δ (fun d => mb δ (fun e => k.nx ((δ.set i (.m d)).set j (.m e))) (k.er δ)) (k.er δ)
theorem M2.of {m : Str} (base : attributeBase o m X.env (eval o X.env) = eval o X.env := by rfl)
    (few : ((backTo cpos (starEach [e, f] X.env)).all (fun x => !x.1) && (backToKw cpos (keywordEach [] X.env)).all (fun x => x.1.isSome) && decide (([e, f] : List Expr).length + ([] : List Keyword).length + (if ([] : List Keyword).isEmpty then 0 else 1) < 30)) = true := by rfl)
    (line : (apos.endLine == cpos.line) = true := by rfl) (trees : backTo cpos (starEach [e, f] X.env) = [(false, eval e X.env), (false, eval f X.env)] := by rfl) : M2 X o m apos e f cpos := ⟨base, few, line, trees⟩
end
end DL
namespace DL
open PySem PySem.Spec PyProof.Rows L2
theorem mul_l {i j : Int} (h : -(2 ^ 64) < i) (h' : i < 2 ^ 64) : IntMulOk i j := CMul.ok (.inl ⟨h, h'⟩)
theorem mul_r {i j : Int} (h : -(2 ^ 64) < j) (h' : j < 2 ^ 64) : IntMulOk i j := CMul.ok (.inr ⟨h, h'⟩)
end DL
set_option Elab.async false
set_option linter.all false
set_option maxRecDepth 100000
set_option maxHeartbeats 4000000
/-! DL37: tables of ints as plain lists of pairs. -/
namespace DL
open PySem PySem.Spec PyProof.Rows L2
variable [TabsC]
abbrev Tab := List (Int × Int)
def tabD (L : Tab) : List (Key × D) := L.map fun p => (.inl p.1, .int p.2)
def valT (L : Tab) (k : Int) : Option Int := (L.find? fun p => decide (p.1 = k)).map (·.2)
def cntT (L : Tab) (k : Int) : Int := (valT L k).getD 0
def keysT (L : Tab) : List Int := L.map (·.1)
def sortT (L : Tab) : Tab := (setL (keysT L)).map fun k => (k, cntT L k)
def totT (L : Tab) : Int := (L.map fun p => p.1 * p.2).sum
def numT (L : Tab) : Int := (L.map (·.2)).sum
theorem valT_none {L : Tab} {k : Int} (h : k ∉ keysT L) : valT L k = none := by
  unfold valT
  rw [List.find?_eq_none.mpr fun p hp => ?_] <;> try rfl
  intro z
  exact h (List.mem_map.mpr ⟨p, hp, of_decide_eq_true z⟩)
theorem valT_mem : ∀ {L : Tab} {p : Int × Int}, (keysT L).Nodup → p ∈ L → valT L p.1 = some p.2
  | q :: r, p, hn, h => by
    have hn := List.nodup_cons.mp hn
    unfold valT
    by_cases e : q.1 = p.1
    · rcases List.mem_cons.mp h with z | z
      · subst z
        rw [List.find?_cons_of_pos (by simp)]
        rfl
      · exact absurd (List.mem_map.mpr ⟨p, z, e.symm⟩) hn.1
    · rw [List.find?_cons_of_neg (by simpa using e)]
      rcases List.mem_cons.mp h with z | z
      · exact absurd (by rw [z]) e
      · exact valT_mem hn.2 z
theorem valT_some {L : Tab} {k v : Int} (h : valT L k = some v) : (k, v) ∈ L := by
  unfold valT at h
  obtain ⟨p, hp, e⟩ := Option.map_eq_some_iff.mp h
  have h1 := List.mem_of_find?_eq_some hp
  have h2 : p.1 = k := by
    have := List.find?_some hp
    exact of_decide_eq_true this
  subst h2 e
  exact h1
theorem valD_tab (L : Tab) (k : Int) : valD (tabD L) (.inl k) = (valT L k).map .int := by
  unfold valD tabD valT
  rw [List.find?_map, Option.map_map, Option.map_map]
  have e : ((fun kv : Key × D => decide (kv.1 = .inl k)) ∘ fun p : Int × Int => ((.inl p.1 : Key), D.int p.2)) = fun p => decide (p.1 = k) := by
    funext p
    simp [Function.comp]
  rw [e]
  rfl
theorem valD_in {L : Tab} {p : Int × Int} (hn : (keysT L).Nodup) (h : p ∈ L) : valD (tabD L) (.inl p.1) = some (.int p.2) := by
  rw [valD_tab, valT_mem hn h] <;> rfl
theorem tab_len (L : Tab) : (tabD L).length = L.length := by
  unfold tabD
  rw [List.length_map]
theorem putD_new {L : Tab} {k v : Int} (h : k ∉ keysT L) : putD (tabD L) (.inl k) (.int v) = tabD (L ++ [(k, v)]) := by
  unfold putD
  rw [if_neg]
  · unfold tabD
    rw [List.map_append] <;> rfl
  · intro z
    obtain ⟨p, hp, e⟩ := List.any_eq_true.mp z
    obtain ⟨q, hq, rfl⟩ := List.mem_map.mp hp
    have e := of_decide_eq_true e
    cases e
    exact h (List.mem_map.mpr ⟨q, hq, rfl⟩)
theorem sortT_keys (L : Tab) : keysT (sortT L) = setL (keysT L) := by
  unfold sortT keysT
  rw [List.map_map]
  exact List.map_id' _
theorem sortT_nodup (L : Tab) : (keysT (sortT L)).Nodup := by
  rw [sortT_keys]
  exact setL_pair.imp fun z => by omega
theorem cntT_mem {L : Tab} {p : Int × Int} (hn : (keysT L).Nodup) (h : p ∈ L) : cntT L p.1 = p.2 := by
  unfold cntT
  rw [valT_mem hn h] <;> rfl
theorem sortT_mem {L : Tab} (hn : (keysT L).Nodup) {p : Int × Int} : p ∈ sortT L ↔ p ∈ L := by
  unfold sortT
  constructor
  · intro h
    obtain ⟨k, hk, rfl⟩ := List.mem_map.mp h
    obtain ⟨q, hq, rfl⟩ := List.mem_map.mp (setL_mem.mp hk)
    rw [cntT_mem hn hq]
    exact hq
  · intro h
    refine List.mem_map.mpr ⟨p.1, setL_mem.mpr (List.mem_map.mpr ⟨p, h, rfl⟩), ?_⟩
    rw [cntT_mem hn h]
theorem nodup_of_keys {L : Tab} (hn : (keysT L).Nodup) : L.Nodup := by
  unfold keysT at hn
  exact (List.pairwise_map.mp hn).imp fun h e => h (by rw [e])
theorem sortT_perm {L : Tab} (hn : (keysT L).Nodup) : (sortT L).Perm L :=
  (List.perm_ext_iff_of_nodup (nodup_of_keys (sortT_nodup L)) (nodup_of_keys hn)).mpr fun _ => sortT_mem hn
theorem perm_sum {α : Type} (f : α → Int) {l m : List α} (h : l.Perm m) : (l.map f).sum = (m.map f).sum := by
  induction h with
  | nil => rfl
  | cons x _ ih => rw [List.map_cons, List.map_cons, List.sum_cons, List.sum_cons, ih]
  | swap x y l =>
    rw [List.map_cons, List.map_cons, List.map_cons, List.map_cons, List.sum_cons, List.sum_cons, List.sum_cons, List.sum_cons]
    omega
  | trans _ _ a b => exact a.trans b
end DL
set_option Elab.async false
set_option linter.all false
set_option maxRecDepth 100000
set_option maxHeartbeats 4000000
/-! DL38: what can be paid out of a table whose sizes are a chain. -/
namespace DL
open PySem PySem.Spec PyProof.Rows L2
variable [TabsC]
structure ChT (L : Tab) : Prop where
  pos : ∀ p, p ∈ L → 1 ≤ p.1 ∧ 0 ≤ p.2
  asc : L.Pairwise fun p q => p.1 < q.1
  dvd : L.Pairwise fun p q => p.1 ∣ q.1
theorem ChT.init {L : Tab} {p : Int × Int} (h : ChT (L ++ [p])) : ChT L ∧ (∀ q, q ∈ L → q.1 < p.1 ∧ q.1 ∣ p.1) ∧ 1 ≤ p.1 ∧ 0 ≤ p.2 := by
  have a := List.pairwise_append.mp h.asc
  have d := List.pairwise_append.mp h.dvd
  have e := h.pos p (List.mem_append_right _ List.mem_cons_self)
  exact ⟨⟨fun q hq => h.pos q (List.mem_append_left _ hq), a.1, d.1⟩, fun q hq => ⟨a.2.2 q hq p List.mem_cons_self, d.2.2 q hq p List.mem_cons_self⟩, e.1, e.2⟩
theorem totT_pos {L : Tab} (h : ∀ p, p ∈ L → 1 ≤ p.1 ∧ 0 ≤ p.2) : 0 ≤ totT L := by
  induction L with
  | nil => exact Int.le_refl _
  | cons p L ih =>
    have e : totT (p :: L) = p.1 * p.2 + totT L := rfl
    have := ih fun q hq => h q (List.mem_cons_of_mem _ hq)
    have hp := h p List.mem_cons_self
    have := Int.mul_nonneg (show 0 ≤ p.1 by omega) hp.2
    omega
end DL
set_option Elab.async false
set_option linter.all false
set_option maxRecDepth 100000
set_option maxHeartbeats 4000000
/-! DL39: dict comprehensions that make tables. -/
namespace DL
open PySem PySem.Spec PyProof.Rows L2
variable [TabsC]
def iOf : D → Int
  | .int i => i
  | _ => 0
theorem e_lk {f : Str} {v : D} {r : List (Str × D)} : List.lookup f ((f, v) :: r) = some v := by
  unfold List.lookup
  simp
end DL
set_option Elab.async false
set_option linter.all false
set_option maxRecDepth 100000
set_option maxHeartbeats 4000000
/-! DL40: f-strings of texts and ints. -/
namespace DL
open PySem PySem.Spec PyProof.Rows L2
variable [TabsC]
def mFmt (ma : TM) : TM := fun δ Q E => ma δ (fun d => (∃ y : Str, d = .str y ∧ y.length ≤ sizeLine ∧ Q (.str y)) ∨ ∃ i : Int, d = .int i ∧ i.natAbs.log2 < 1920 ∧ Q (.str (toString i))) E
def mJs : List TM → Str → List DV → (Str → Prop) → (Er → Prop) → Prop
  | [], acc, _, Q, _ => Q acc
  | m :: ms, acc, δ, Q, E => m δ (fun d => ∃ y : Str, d = .str y ∧ (acc ++ y).length ≤ sizeLine ∧ mJs ms (acc ++ y) δ Q E) E
def mJoined (ms : List TM) : TM := fun δ Q E => mJs ms Str.empty δ (fun out => Q (.str out)) E
section
variable {X : Cx} {W : WX} {e : Expr} {ma : TM} {ba : Bool} {pos : Pos}
theorem de_fmt (he : DE X W e ba ma) : DE X W (.FormattedValue e (-1) none pos) false (mFmt ma) :=
  PE.imp (pe_fmt he) fun σ H Q ⟨F, own, δ, P, EK, A, m, q⟩ => ⟨F, own, δ, _, EK, A, m, fun d v H1 m1 s1 r1 => by
    rcases m1 with ⟨y, ed, hy, pd⟩ | ⟨i, ed, hi, pd⟩
    · subst ed
      exact .inl ⟨y, r1.isStr, hy, q _ _ H1 pd s1 (.cl (.str _))⟩
    · subst ed
      exact .inr ⟨i, r1.isInt, hi, q _ _ H1 pd s1 (.cl (.str _))⟩⟩
inductive DJ (X : Cx) (W : WX) : List Expr → List TM → Prop where
  | nil : DJ X W [] []
  | cons {e : Expr} {m : TM} {es : List Expr} {ms : List TM} (h : DE X W e false m) (r : DJ X W es ms) : DJ X W (e :: es) (m :: ms)
theorem dj_nil : DJ X W [] [] := .nil
theorem dj_cons {m : TM} {es : List Expr} {ms : List TM} (h : DE X W e false m) (r : DJ X W es ms) : DJ X W (e :: es) (m :: ms) := .cons h r
theorem dj_pj {es : List Expr} {ms : List TM} (h : DJ X W es ms) : PJ X es (ms.map (tm X.K W false)) := by
  induction h with
  | nil => exact .nil
  | cons h _ ih => exact .cons h ih
theorem js_reading {F : Fm} {own : List Addr} {σ : L2.St} {δ : List DV} {P : Str → Prop} {EK : Er → Prop} {Q : Str → Hp → Prop} : ∀ {ms : List TM} {acc : Str} {H : Hp}, At X.K W σ H F own δ EK → mJs ms acc δ P EK → (∀ out H', P out → Same H H' → Q out H') → tJs (ms.map (tm X.K W false)) acc σ H Q
  | [], acc, H, A, m, q => q acc H m (Same.refl H)
  | _ :: ms, acc, H, A, m, q => ⟨F, own, δ, _, EK, A, m, fun d v H1 ⟨y, ed, hy, pd⟩ s1 r1 => by
    subst ed
    exact ⟨y, r1.isStr, hy, js_reading (A.on s1) pd fun out H' p s => q out H' p (s1.trans s)⟩⟩
theorem de_joined {v1 v2 : Expr} {rest : List Expr} {ms : List TM} (h : DJ X W (v1 :: v2 :: rest) ms) : DE X W (.JoinedStr (v1 :: v2 :: rest) pos) false (mJoined ms) :=
  PE.imp (pe_joined (dj_pj h)) fun σ H Q ⟨F, own, δ, P, EK, A, m, q⟩ => js_reading A m fun out H' p s => q _ _ H' p s (.cl (.str _))
end
end DL
namespace DL
open PySem PySem.Spec PyProof.Rows L2
variable [TabsC]
/-! ### o[e] of an own instance -/
section
variable {X : Cx} {W : WX} {a b : Expr} {ma mb : TM} {n : Str} {C g : Addr} {k : Nat} {m : FM} {pos : Pos}
def mGetO (n : Str) (m : FM) (ma mb : TM) : TM := fun δ Q E => ma δ (fun a => mb δ (fun b => ∃ fs : List (Str × D), a = .obj n fs ∧ m [a, b] Q NoE) E) E
end
end DL
set_option Elab.async false
set_option linter.all false
set_option maxRecDepth 100000
set_option maxHeartbeats 4000000
/-! DL41: enumerate(a tuple). -/
namespace DL
open PySem PySem.Spec PyProof.Rows L2
variable [TabsC]
def enumD (ds : List D) : List D := ds.zipIdx.map fun p => .tup [.int p.2, p.1]
section
variable {X : Cx} {W : WX} {e : Expr} {ba : Bool} {la : LM} {p pos : Pos}
def mEnumT (la : LM) : LM := fun δ P E => la δ (fun ds => ∃ xs, ds = [.tup xs] ∧ P (enumD xs)) E
end
end DL
set_option Elab.async false
set_option linter.all false
set_option maxRecDepth 100000
set_option maxHeartbeats 4000000
/-! DL42: sorted of tuples of ints. -/
namespace DL
open PySem PySem.Spec PyProof.Rows L2
variable [TabsC]
theorem Reps.perm {K : PySem.W.Frag} {H : Hp} {ys xs : List V} (h : ys.Perm xs) : ∀ {ds : List D}, Reps K H xs ds → ∃ es : List D, es.Perm ds ∧ Reps K H ys es := by
  induction h with
  | nil => intro ds r; exact ⟨ds, .refl _, r⟩
  | cons x _ ih =>
    intro ds r
    cases r with
    | cons h t =>
      obtain ⟨es, p, q⟩ := ih t
      exact ⟨_ :: es, p.cons _, .cons h q⟩
  | swap x y l =>
    intro ds r
    cases r with
    | cons h1 t => cases t with
      | cons h2 t => exact ⟨_ :: _ :: _, List.Perm.swap _ _ _, .cons h2 (.cons h1 t)⟩
  | trans _ _ ih1 ih2 =>
    intro ds r
    obtain ⟨es, p, q⟩ := ih2 r
    obtain ⟨fs, p', q'⟩ := ih1 q
    exact ⟨fs, p'.trans p, q'⟩
end DL
set_option Elab.async false
set_option linter.all false
set_option maxRecDepth 100000
set_option maxHeartbeats 4000000
/-! DL43: thunks: x(lambda: e), where x is a def that calls what it is handed. -/
namespace DL
open PySem PySem.Spec PyProof.Rows L2
variable [TabsC]
/-! ### what the def that is handed the thunk may do with it -/
abbrev TL := (D → Prop) → (Er → Prop) → Prop
def mThk (i : Nat) (f : Addr) (Hc : Hp) (tl : TL) : TM := fun δ Q E => δ[i]? = some (.v (.opq f Hc)) ∧ tl Q E
abbrev goCx (P : Program) (w : World) (K : PySem.W.Frag) (mg : Str → Option Value) (base : Heap) (Ng : List Str) (qg : Str) (sg : Scope) (g : Addr) (cdg : Value) (A : Around) (outer : List Env) (s : Shared) (H : Hp) (Eg : XK) (pn : List (Addr × Obj)) (xe : Value → Shared → Prop) : Cx :=
  (cxOf (L2.CX P w) P w K mg base Ng qg sg g cdg A outer s H Eg).tr pn xe
def ThkOk (P : Program) (w : World) (K : PySem.W.Frag) (mg : Str → Option Value) (base : Heap) (kb : Nat) (A : Around) (outer : List Env) (s : Shared) (H : Hp) (f : Addr) (Hc : Hp) (tl : TL) : Prop :=
  ∀ {Ng : List Str} {qg : Str} {sg : Scope} {g : Addr} {cdg : Value} {Eg : XK} {i : Nat} {a : Str} {pn : List (Addr × Obj)} {xe : Value → Shared → Prop} {W : WX} {p1 p2 : Pos}, Ng[i]? = some a → Vis sg a → (a == ("__debug__" : Str)) = false → (a == ("__classdict__" : Str)) = false →
    Room (kb + 1) (A.deeper (envOfC qg sg s.heap.objs.size g cdg)) → Takes (goCx P w K mg base Ng qg sg g cdg A outer s H Eg pn xe) W → DE (goCx P w K mg base Ng qg sg g cdg A outer s H Eg pn xe) W (.Call (.Name a p1) [] [] p2) false (mThk i f Hc tl)
/-- the maker's names as the thunk sees them -/
def demote (δ : List DV) : List DV := δ.map fun
  | .v d => .v d
  | _ => .u
section
variable {X : Cx} {pins : List (Addr × Obj)} {σ : L2.St} {H : Hp} {s : Shared}
/-- a def that is handed one thunk -/
def FnT (P : Program) (w : World) (K : PySem.W.Frag) (mg : Str → Option Value) (base : Heap) (kb k : Nat) (g : Addr) (M : TL → TL) : Prop :=
  ∀ (f : Addr) (Hc : Hp) (tl : TL) (A : Around) (outer : List Env) (s : Shared) (H : Hp) (Q : VK) (E : XK), GdOk A base → Room k A → Env0 P w K mg base A outer s H → ThkOk P w K mg base kb A outer s H f Hc tl → spD K (fun ds Q E => ds = [.opq f Hc] ∧ M tl Q E) [.ref f] H Q E →
    codeAny (model P w) A (.call (.ref g) ⟨[.ref f], []⟩) (CR (L2.CX P w) outer P w H s Q E) s
theorem FnT.imp {P : Program} {w : World} {K : PySem.W.Frag} {mg : Str → Option Value} {base : Heap} {kb k : Nat} {g : Addr} {M M' : TL → TL} (F : FnT P w K mg base kb k g M) (h : ∀ tl Q E, M' tl Q E → M tl Q E) : FnT P w K mg base kb k g M' :=
  fun f Hc tl A outer s H Q E hG hr e0 ok ⟨fo, ds, P, EK, t, tb, rs, ⟨e, m⟩, q⟩ => F f Hc tl A outer s H Q E hG hr e0 ok ⟨fo, ds, P, EK, t, tb, rs, ⟨e, h _ _ _ m⟩, q⟩
def mThunk (M : TL → TL) (mb : TM) : TM := fun δ Q E => M (fun Q' E' => mb (demote δ) Q' E') Q E
end
/-! ### defs whose code object is known; the end of a law that makes lambdas -/
end DL
namespace DL
theorem e_dm0 : demote [] = [] := rfl
theorem e_dmv (d : D) (r : List DV) : demote (.v d :: r) = .v d :: demote r := rfl
theorem e_dmu (r : List DV) : demote (.u :: r) = .u :: demote r := rfl
theorem e_dmm (d : D) (r : List DV) : demote (.m d :: r) = .u :: demote r := rfl
theorem e_dms (d : D) (r : List DV) : demote (.s d :: r) = .u :: demote r := rfl
end DL
set_option Elab.async false
set_option linter.all false
set_option maxRecDepth 100000
set_option maxHeartbeats 4000000
/-! DL44: xs[i] = e of a list of one's own; a def by its name; calls of a name that holds a def. -/
namespace DL
open PySem PySem.Spec PyProof.Rows L2
variable [TabsC]
theorem Reps.set {K : PySem.W.Frag} {H : Hp} {v : V} {d : D} (h : Rep K H v d) : ∀ {vs : List V} {ds : List D} (j : Nat), Reps K H vs ds → Reps K H (vs.set j v) (ds.set j d)
  | _, _, _, .nil => .nil
  | _, _, 0, .cons _ t => .cons h t
  | _, _, j + 1, .cons r t => .cons r (Reps.set h j t)
section
variable {X : Cx} {W : WX} {a b c e e2 o : Expr} {es : List Expr} {ba bb : Bool} {ma mb mc mk : TM} {la : LM} {pos p p2 pos2 : Pos} {x y : Str} {k : Nat}
def sPutL (i : Nat) (mk mv : TM) : SM := fun δ κ => mv δ (fun v => ∃ ds, δ[i]? = some (.m (.list ds)) ∧ mk δ (fun kd => ∃ (z : Int) (j : Nat), kd = .int z ∧ ixN ds.length z = some j ∧ κ.nx (δ.set i (.m (.list (ds.set j v))))) (κ.er δ)) (κ.er δ)
theorem ds_putL (i : Nat) {ie : Expr} {p1 : Pos} (ho : PE X (.Name x p) (tVar i)) (hi : DE X W ie bb mk) (hv : DE X W e false ma) (hs : swapsWithSole [.Subscript (.Name x p) ie p1] e pos.line X.env = pure false := by rfl) (hw : swappedStores [.Subscript (.Name x p) ie p1] e X.env = pure none := by rfl)
    (h1 : (assignEach [.Subscript (.Name x p) ie p1] X.env).map (·.2) = [assign (.Subscript (.Name x p) ie p1) X.env] := by rfl)
    (ha : ∀ v, assign (.Subscript (.Name x p) ie p1) X.env v = (do
      let ov ← holding [v] (eval (.Name x p) X.env)
      let iv ← holding [v, ov] (eval ie X.env)
      standAt p1
      holding [v, ov, iv] (setItem ov iv v)
      release [v, ov, iv] []) := by intro _; rfl) :
    DS X W (.Assign [.Subscript (.Name x p) ie p1] e pos) (sPutL i mk ma) :=
  PS.imp (ps_asg hv (pg_sub ho hi set_list ha) hs hw h1) fun D σ H ⟨F, own, δ, κ, E, h, L⟩ => by
    refine ⟨F, own, δ, _, _, L.at E, h, fun d v H1 ⟨ds, hd, m1⟩ s1 r1 => ?_⟩
    have E1 := E.grow s1
    obtain ⟨a, xs, e1, ha, h1, h2, h3⟩ := mut_list E1 hd
    refine ⟨_, e1, F, own, δ, _, _, (L.at E).on s1, m1, fun kd kv H2 ⟨z, j, ek, hj, m2⟩ s2 r2 => ?_⟩
    subst ek
    have ekv := r2.isInt
    subst ekv
    have h1' := s2 _ _ h1
    refine ⟨a, xs, z, j, rfl, rfl, h1', by rw [h3.length]; exact hj, L.nx _ _ own _ ((E1.grow s2).put hd e1 h1' (.ml (E.sep a ha) upd_same (by rw [List.length_set]; exact h2) ?_)) m2⟩
    rw [sub_upd (List.mem_append_right _ ha)]
    exact (h3.mono (sub_same s2)).set (r1.clean.mono (sub_same s2)) j
/-! ### a name that holds a def -/
def mCallFn (i : Nat) (fs : List (Str × FM)) (la : LM) : TM := fun δ Q E => ∃ n m, δ[i]? = some (.v (.fn n)) ∧ (n, m) ∈ fs ∧ la δ (fun ds => m ds Q E) E
end
theorem ix_last {α : Type} (l : List α) (x : α) : ixN (l ++ [x]).length (-1) = some l.length := by
  unfold ixN
  rw [List.length_append, List.length_singleton]
  rw [if_neg (by omega)]
  simp
  constructor <;> omega
end DL
set_option Elab.async false
set_option linter.all false
set_option maxRecDepth 100000
set_option maxHeartbeats 4000000
/-! DL45: try: call() / except A: return 'a' / except B as e: return 'b ' + repr(e.f): what it says, told once. -/
namespace DL
open PySem PySem.Spec PyProof.Rows L2
variable [TabsC]
theorem e_dmc (x : DV) (r : List DV) : demote (x :: r) = (match x with | .v d => .v d | _ => .u) :: demote r := rfl
end DL
namespace DL
open PySem PySem.Spec PyProof.Rows L2
end DL
set_option Elab.async false
set_option linter.all false
set_option maxRecDepth 100000
set_option maxHeartbeats 4000000
/-! DL46: f(a, .., k = b); a tuple times a number. -/
namespace DL
open PySem PySem.Spec PyProof.Rows L2
variable [TabsC]
/-- a def called with its last parameters by name -/
def FnK (P : Program) (w : World) (K : PySem.W.Frag) (mg : Str → Option Value) (base : Heap) (k : Nat) (f : Addr) (n : Nat) (ks : List Str) (m : FM) : Prop :=
  ∀ (A : Around) (outer : List Env) (s : Shared) (H : Hp) (us ws : List Value) (vs zs : List V) (Q : VK) (E : XK), GdOk A base → Room k A → Env0 P w K mg base A outer s H → Vals vs us → Vals zs ws → vs.length = n → zs.length = ks.length → spD K m (vs ++ zs) H Q E →
    codeAny (model P w) A (.call (.ref f) ⟨us, ks.zip ws⟩) (CR (L2.CX P w) outer P w H s Q E) s
theorem FnK.imp {P : Program} {w : World} {K : PySem.W.Frag} {mg : Str → Option Value} {base : Heap} {k n : Nat} {ks : List Str} {f : Addr} {m m' : FM} (F : FnK P w K mg base k f n ks m) (h : ∀ ds Q E, m' ds Q E → m ds Q E) : FnK P w K mg base k f n ks m' :=
  fun A outer s H us ws vs zs Q E hG hr e r rz l1 l2 ⟨fo, ds, P, EK, t, tb, rs, m, q⟩ => F A outer s H us ws vs zs Q E hG hr e r rz l1 l2 ⟨fo, ds, P, EK, t, tb, rs, h _ _ _ m, q⟩
section
variable {X : Cx} {W : WX} {a b c e o : Expr} {es : List Expr} {kws : List Keyword} {ba bb : Bool} {ma mb mc : TM} {la lk : LM} {p pos kpos : Pos} {x : Str} {k n : Nat} {f : Addr} {m : FM} {ks : List Str} {nm : Option Str}
theorem PK.imp {X : Cx} {kws : List Keyword} {t t' : TA} (h : PK X kws t) (g : ∀ σ H Q, t' σ H Q → t σ H Q) : PK X kws t' := ⟨fun pos pins s σ H Q I q => h.run pos pins s σ H Q I (g _ _ _ q)⟩
def mCallK (m : FM) (n l : Nat) (la lk : LM) : TM := fun δ Q E => la δ (fun ds => lk δ (fun es => ds.length = n ∧ es.length = l ∧ m (ds ++ es) Q E) E) E
/-- a tuple times a number -/
def mRepT (ma mb : TM) : TM := fun δ Q E => ma δ (fun x => mb δ (fun y => ∃ ds k, x = .tup ds ∧ y = .int k ∧ ds ≠ [] ∧ 2 ≤ k ∧ k ≤ 1000 ∧ ds.length ≤ 1000 ∧ Q (.tup (List.replicate k.toNat ds).flatten)) E) E
end
end DL
set_option Elab.async false
set_option linter.all false
set_option maxRecDepth 100000
set_option maxHeartbeats 4000000
/-! DL47: range(i, j, -1). -/
namespace DL
open PySem PySem.Spec PyProof.Rows L2
variable [TabsC]
def downD (hi : Int) (n : Nat) : List D := (List.range n).map fun k : Nat => D.int (hi - k)
section
variable {X : Cx} {W : WX} {a b c : Expr} {ba : Bool} {la : LM} {pos p : Pos}
def mRange3 (la : LM) : LM := fun δ P E => la δ (fun ds => ∃ i j : Int, ds = [.int i, .int j, .int (-1)] ∧ -(2 ^ 61) ≤ i ∧ i < 2 ^ 61 ∧ -(2 ^ 61) ≤ j ∧ j < 2 ^ 61 ∧ (i - j).toNat ≤ sizeLine ∧ P (downD i (i - j).toNat)) E
end
end DL
set_option Elab.async false
set_option linter.all false
set_option maxRecDepth 100000
set_option maxHeartbeats 4000000
/-! DL48: plain facts: runs of rooms, lots, levels. -/
namespace DL
open PySem PySem.Spec PyProof.Rows L2
variable [TabsC]
abbrev Runs := List (Int × Int)
def rowD (L : Runs) : D := .obj "Row" [("own_runs", .tup (L.map pairD))]
def storeD (L : Runs) : D := .obj "Store" [("own_runs", .tup (L.map pairD))]
def mstep (acc : Runs) (p : Int × Int) : Runs := match acc.getLast? with
  | some q => if q.1 = p.1 then acc.dropLast ++ [(p.1, q.2 + p.2)] else acc ++ [p]
  | none => acc ++ [p]
def mergeT (L : Runs) : Runs := L.foldl mstep []
theorem mergeT_snoc (L : Runs) (p : Int × Int) : mergeT (L ++ [p]) = mstep (mergeT L) p := by unfold mergeT; rw [List.foldl_append] <;> rfl
theorem mstep_end (acc : Runs) (q p : Int × Int) : mstep (acc ++ [q]) p = if q.1 = p.1 then acc ++ [(p.1, q.2 + p.2)] else acc ++ [q] ++ [p] := by
  unfold mstep
  rw [List.getLast?_append]
  simp
theorem mstep_len (acc : Runs) (p : Int × Int) : (mstep acc p).length ≤ acc.length + 1 := by
  rcases List.eq_nil_or_concat acc with rfl | ⟨l, q, rfl⟩
  · simp [mstep]
  · rw [List.concat_eq_append, mstep_end]
    split <;> simp
theorem mergeT_len (L : Runs) : (mergeT L).length ≤ L.length := by
  have : ∀ (n : Nat), (mergeT (L.take n)).length ≤ n := fun n => by
    induction n with
    | zero => simp [mergeT]
    | succ n ih =>
      by_cases h : n < L.length
      · rw [List.take_succ_eq_append_getElem h, mergeT_snoc]
        have := mstep_len (mergeT (L.take n)) L[n]
        omega
      · rw [List.take_of_length_le (by omega)] at ih ⊢
        omega
  have := this L.length
  rwa [List.take_length] at this
theorem fineR (L : Runs) : fineN 2 (.list (L.map pairD)) := fineN_list fun d hd => by
  obtain ⟨p, hp, rfl⟩ := List.mem_map.mp hd
  exact fineP p
theorem pairD_inj {p q : Int × Int} (e : pairD p = pairD q) : p = q := by
  unfold pairD at e
  injection e with e
  injection e with e1 e2
  injection e1 with e1
  injection e2 with e2 _
  injection e2 with e2
  exact Prod.ext e1 e2
theorem runs_inj : ∀ {L M : Runs}, L.map pairD = M.map pairD → L = M
  | [], [], _ => rfl
  | [], _ :: _, e => by cases e
  | _ :: _, [], e => by cases e
  | p :: L, q :: M, e => by
    rw [List.map_cons, List.map_cons] at e
    injection e with e1 e2
    rw [pairD_inj e1, runs_inj e2]
theorem div_ok' {i j : Int} (h : 1 ≤ j) (h' : j < 10 ^ 200) : CDivW i j := wide_div (b := 700) (by omega) (by
  have : j.natAbs < 10 ^ 200 := by
    have := Int.natAbs_of_nonneg (show 0 ≤ j by omega)
    omega
  exact Nat.lt_trans this (by decide +kernel)) (by decide) (by decide)
def spaceT (L : Runs) (s : Int) : Int := (L.map fun p => p.2 * (p.1 / s)).sum
theorem space_nil (s : Int) : spaceT [] s = 0 := rfl
theorem space_append (L M : Runs) (s : Int) : spaceT (L ++ M) s = spaceT L s + spaceT M s := by unfold spaceT; rw [List.map_append, List.sum_append]
theorem space_one (p : Int × Int) (s : Int) : spaceT [p] s = p.2 * (p.1 / s) := by unfold spaceT; simp
theorem space_step (acc : Runs) (p : Int × Int) (s : Int) : spaceT (mstep acc p) s = spaceT acc s + p.2 * (p.1 / s) := by
  rcases List.eq_nil_or_concat acc with rfl | ⟨l, q, rfl⟩
  · rw [show mstep [] p = [p] from rfl, space_one, space_nil, Int.zero_add]
  · rw [List.concat_eq_append, mstep_end]
    split
    · rename_i h
      rw [space_append, space_append, space_one, space_one, h, Int.add_mul, Int.add_assoc]
    · rw [space_append, space_one]
theorem space_merge (s : Int) : ∀ L : Runs, spaceT (mergeT L) s = spaceT L s := fun L => by
  have : ∀ n : Nat, spaceT (mergeT (L.take n)) s = spaceT (L.take n) s := fun n => by
    induction n with
    | zero => rfl
    | succ n ih =>
      by_cases h : n < L.length
      · rw [List.take_succ_eq_append_getElem h, mergeT_snoc, space_step, ih, space_append, space_one]
      · rw [List.take_of_length_le (by omega)] at ih ⊢
        exact ih
  have := this L.length
  rwa [List.take_length] at this
/-- units of a lot at a size -/
def unitsT (L : Tab) (s : Int) : Int := ((L.filter fun p => decide (p.1 ≥ s)).map fun p => p.1 * p.2).sum / s
/-- bounds: everything is as long as 50 figures -/
def bndR (L : Runs) : Prop := L.length ≤ 40 ∧ ∀ p, p ∈ L → (1 ≤ p.1 ∧ p.1 < 10 ^ 50) ∧ (1 ≤ p.2 ∧ p.2 < 10 ^ 60)
def bndL (L : Tab) : Prop := (keysT L).Nodup ∧ L.length ≤ 12 ∧ ∀ p, p ∈ L → (1 ≤ p.1 ∧ p.1 < 10 ^ 50) ∧ (1 ≤ p.2 ∧ p.2 < 10 ^ 120)
theorem p50_240 : (10 : Int) ^ 50 < 10 ^ 240 := by decide +kernel
theorem p60_240 : (10 : Int) ^ 60 < 10 ^ 240 := by decide +kernel
theorem p120_240 : (10 : Int) ^ 120 < 10 ^ 240 := by decide +kernel
theorem p50_200 : (10 : Int) ^ 50 < 10 ^ 200 := by decide +kernel
theorem p60_200 : (10 : Int) ^ 60 < 10 ^ 200 := by decide +kernel
theorem div_le' {a s : Int} (ha : 0 ≤ a) (hs : 1 ≤ s) : 0 ≤ a / s ∧ a / s ≤ a := ⟨Int.ediv_nonneg ha (by omega), Int.ediv_le_self s ha⟩
theorem bndR.mul {L : Runs} (h : bndR L) : ∀ s : Int, 1 ≤ s → ∀ p, p ∈ L → IntMulOk p.2 (p.1 / s) := fun s hs p hp => by
  have b := h.2 p hp
  have d := div_le' (a := p.1) (s := s) (by omega) hs
  have h1 := p50_240; have h2 := p60_240
  have h0 : (0 : Int) < 10 ^ 240 := by decide +kernel
  have k : (-(10 ^ 240) < p.2 ∧ p.2 < 10 ^ 240) ∧ (-(10 ^ 240) < p.1 / s ∧ p.1 / s < 10 ^ 240) := by
    generalize (10 : Int) ^ 240 = A at *
    generalize (10 : Int) ^ 50 = B at *
    generalize (10 : Int) ^ 60 = C at *
    omega
  exact mul_lim k.1.1 k.1.2 k.2.1 k.2.2
theorem bndL.mul {L : Tab} (h : bndL L) : ∀ p, p ∈ L → IntMulOk p.1 p.2 := fun p hp => by
  have b := h.2.2 p hp
  have h1 := p50_240; have h2 := p120_240
  have h0 : (0 : Int) < 10 ^ 240 := by decide +kernel
  have k : (-(10 ^ 240) < p.1 ∧ p.1 < 10 ^ 240) ∧ (-(10 ^ 240) < p.2 ∧ p.2 < 10 ^ 240) := by
    generalize (10 : Int) ^ 240 = A at *
    generalize (10 : Int) ^ 50 = B at *
    generalize (10 : Int) ^ 120 = C at *
    omega
  exact mul_lim k.1.1 k.1.2 k.2.1 k.2.2
theorem keys_len (L : Tab) : (keysT L).length = L.length := by unfold keysT; rw [List.length_map]
/-- sums are kept by merging -/
theorem merge_vals {B : Int} (hB : 0 ≤ B) : ∀ L : Runs, (∀ p, p ∈ L → (1 ≤ p.1 ∧ p.1 < 10 ^ 50) ∧ 1 ≤ p.2 ∧ p.2 ≤ B) → ∀ n : Nat, ∀ q, q ∈ mergeT (L.take n) → (1 ≤ q.1 ∧ q.1 < 10 ^ 50) ∧ 1 ≤ q.2 ∧ q.2 ≤ B * n := fun L hL n => by
  induction n with
  | zero => intro q hq; cases hq
  | succ n ih =>
    have e1 : B * ((n + 1 : Nat) : Int) = B * n + B := by rw [Int.natCast_succ, Int.mul_add, Int.mul_one]
    have nn : 0 ≤ B * (n : Int) := Int.mul_nonneg hB (by omega)
    by_cases h : n < L.length
    · rw [List.take_succ_eq_append_getElem h, mergeT_snoc, e1]
      have hp := hL L[n] (List.getElem_mem h)
      rcases List.eq_nil_or_concat (mergeT (L.take n)) with e | ⟨l, q0, e⟩
      · rw [e]
        intro q hq
        rw [List.mem_singleton.mp hq]
        refine ⟨hp.1, ?_⟩
        omega
      · rw [List.concat_eq_append] at e
        rw [e] at ih ⊢
        rw [mstep_end]
        have h0 := ih q0 (by simp)
        intro q hq
        split at hq
        · rcases List.mem_append.mp hq with hq | hq
          · have := ih q (List.mem_append_left _ hq)
            exact ⟨this.1, by omega⟩
          · rw [List.mem_singleton.mp hq]
            exact ⟨hp.1, by show 1 ≤ q0.2 + L[n].2 ∧ q0.2 + L[n].2 ≤ _; omega⟩
        · rcases List.mem_append.mp hq with hq | hq
          · have := ih q hq
            exact ⟨this.1, by omega⟩
          · rw [List.mem_singleton.mp hq]
            exact ⟨hp.1, by omega⟩
    · have e : L.take (n + 1) = L.take n := by rw [List.take_of_length_le (by omega), List.take_of_length_le (by omega)]
      rw [e, e1]
      intro q hq
      have := ih q hq
      exact ⟨this.1, by omega⟩
theorem bndR.merge {L : Runs} (hl : L.length ≤ 40) (h : ∀ p, p ∈ L → (1 ≤ p.1 ∧ p.1 < 10 ^ 50) ∧ 1 ≤ p.2 ∧ p.2 ≤ 10 ^ 50) : bndR (mergeT L) := by
  refine ⟨Nat.le_trans (mergeT_len L) hl, fun p hp => ?_⟩
  have := merge_vals (B := 10 ^ 50) (by decide +kernel) L h L.length p (by rw [List.take_length]; exact hp)
  refine ⟨this.1, this.2.1, ?_⟩
  have b : (10 : Int) ^ 50 * 40 < 10 ^ 60 := by decide +kernel
  have c : (10 : Int) ^ 50 * (L.length : Int) ≤ 10 ^ 50 * 40 := Int.mul_le_mul_of_nonneg_left (by omega) (by decide +kernel)
  omega
theorem sum_le {α : Type} {f : α → Int} {B : Int} (hB : 0 ≤ B) : ∀ {l : List α}, (∀ x, x ∈ l → 0 ≤ f x ∧ f x ≤ B) → 0 ≤ (l.map f).sum ∧ (l.map f).sum ≤ B * l.length
  | [], _ => by simp
  | x :: r, h => by
    have ih := sum_le hB fun y hy => h y (List.mem_cons_of_mem _ hy)
    have hx := h x List.mem_cons_self
    have e : B * ((x :: r).length : Int) = B * r.length + B := by rw [List.length_cons, Int.natCast_succ, Int.mul_add, Int.mul_one]
    rw [List.map_cons, List.sum_cons, e]
    omega
theorem bndL.units {L : Tab} (h : bndL L) {s : Int} (hs : 1 ≤ s) : 0 ≤ unitsT L s ∧ unitsT L s ≤ 10 ^ 172 := by
  have b : (10 : Int) ^ 50 * 10 ^ 120 * 12 ≤ 10 ^ 172 := by decide +kernel
  have := sum_le (f := fun p : Int × Int => p.1 * p.2) (B := 10 ^ 50 * 10 ^ 120) (by decide +kernel) (l := L.filter fun p => decide (p.1 ≥ s)) fun p hp => by
    have hb := h.2.2 p (List.mem_filter.mp hp).1
    exact ⟨Int.mul_nonneg (by omega) (by omega), Int.mul_le_mul (by omega) (by omega) (by omega) (by decide +kernel)⟩
  have l := List.length_filter_le (fun p : Int × Int => decide (p.1 ≥ s)) L
  have c : (10 : Int) ^ 50 * 10 ^ 120 * ((L.filter fun p => decide (p.1 ≥ s)).length : Int) ≤ 10 ^ 50 * 10 ^ 120 * 12 := Int.mul_le_mul_of_nonneg_left (by have := h.2.1; omega) (by decide +kernel)
  have d := div_le' (a := ((L.filter fun p => decide (p.1 ≥ s)).map fun p => p.1 * p.2).sum) (s := s) this.1 hs
  unfold unitsT
  omega
theorem keys_app (L : Tab) (p : Int × Int) : keysT (L ++ [p]) = keysT L ++ [p.1] := by unfold keysT; rw [List.map_append] <;> rfl
end DL
set_option Elab.async false
set_option linter.all false
set_option maxRecDepth 100000
set_option maxHeartbeats 4000000
/-! DL49: a, b, .. = a list. -/
namespace DL
open PySem PySem.Spec PyProof.Rows L2
variable [TabsC]
section
variable {X : Cx} {es : List Expr} {pos : Pos}
def gL (n : Nat) (gs : GMs) : GM := fun d δ P => ∃ ds, d = .list ds ∧ ds.length = n ∧ gs ds δ P
theorem dg_lst {j : Nat} {gs : GMs} {n : Nat} (hc : X.calm = true) (h : DGs X es gs) (hn : (assignEach es X.env).length = n := by rfl) (hst : (assignEach es X.env).findIdx? (·.1) = none := by rfl) : DG X (.Tuple es j pos) (gL n gs) :=
  PG.imp (pg_lst hc h hn hst) fun v σ H Q ⟨F, own, δ, d, P, E, r, g, q⟩ => by
    obtain ⟨ds, rfl, hl, g⟩ := g
    cases r with
    | list h1 h2 h3 => exact ⟨_, _, rfl, .of (sub_le _ _ h1), by rw [h3.length]; exact hl, F, own, δ, ds, P, E, h3, g, q⟩
end
end DL
set_option Elab.async false
set_option linter.all false
set_option maxRecDepth 100000
set_option maxHeartbeats 4000000
/-! DL50: things of a chain fit into rooms just if no size bars them: the plain law. -/
namespace DL
open PySem PySem.Spec PyProof.Rows L2
end DL
set_option Elab.async false
set_option linter.all false
set_option maxRecDepth 100000
set_option maxHeartbeats 4000000
/-! DL51: plain facts: stores of wide numbers, further rooms. -/
namespace DL
open PySem PySem.Spec PyProof.Rows L2
variable [TabsC]
/-- wide runs: numbers of rooms up to 200 figures -/
def widR (L : Runs) : Prop := L.length ≤ 1000 ∧ ∀ p, p ∈ L → (1 ≤ p.1 ∧ p.1 < 10 ^ 50) ∧ (1 ≤ p.2 ∧ p.2 < 10 ^ 200)
theorem bndR.wid {L : Runs} (h : bndR L) : widR L := ⟨by have := h.1; omega, fun p hp => ⟨(h.2 p hp).1, (h.2 p hp).2.1, Int.lt_trans (h.2 p hp).2.2 p60_200⟩⟩
theorem widR.mul {L : Runs} (h : widR L) : ∀ s : Int, 1 ≤ s → ∀ p, p ∈ L → IntMulOk p.2 (p.1 / s) := fun s hs p hp => by
  have b := h.2 p hp
  have d := div_le' (a := p.1) (s := s) (by omega) hs
  have h1 := p50_240; have h2 : (10 : Int) ^ 200 < 10 ^ 240 := by decide +kernel
  have h0 : (0 : Int) < 10 ^ 240 := by decide +kernel
  have k : (-(10 ^ 240) < p.2 ∧ p.2 < 10 ^ 240) ∧ (-(10 ^ 240) < p.1 / s ∧ p.1 / s < 10 ^ 240) := by
    generalize (10 : Int) ^ 240 = A at *
    generalize (10 : Int) ^ 50 = B at *
    generalize (10 : Int) ^ 200 = C at *
    omega
  exact mul_lim k.1.1 k.1.2 k.2.1 k.2.2
theorem bnd_key {L : Tab} (hb : bndL L) {k : Int} (hk : k ∈ keysT L) : 1 ≤ k ∧ k < 10 ^ 50 := by
  obtain ⟨p, hp, rfl⟩ := List.mem_map.mp hk
  exact (hb.2.2 p hp).1
end DL
set_option Elab.async false
set_option linter.all false
set_option maxRecDepth 100000
set_option maxHeartbeats 4000000
/-! DL52: dicts with tuples as keys. -/
namespace DL
open PySem PySem.Spec PyProof.Rows L2
variable [TabsC]
section
variable {X : Cx} {W : WX} {a b c e e2 o : Expr} {es : List Expr} {ba bb : Bool} {ma mb mc mt : TM} {la : LM} {pos p p2 pos2 : Pos} {x y : Str} {k : Nat}
/-! ### d[tuple(e)] = v -/
def putTD (kvs : List (List Key × D)) (k : List Key) (v : D) : List (List Key × D) := if (kvs.any fun kv => decide (kv.1 = k)) = true then kvs.map (fun kv => if kv.1 = k then (kv.1, v) else kv) else kvs ++ [(k, v)]
theorem tkeys_any {α β : Type} {k : List Key} : ∀ {l : List (List Key × α)} {m : List (List Key × β)}, l.map (·.1) = m.map (·.1) → (l.any fun kv => decide (kv.1 = k)) = (m.any fun kv => decide (kv.1 = k))
  | [], [], _ => rfl
  | [], _ :: _, e => by cases e
  | _ :: _, [], e => by cases e
  | x :: l, y :: m, e => by
    rw [List.map_cons, List.map_cons] at e
    injection e with e1 e2
    rw [List.any_cons, List.any_cons, tkeys_any e2, e1]
theorem RepTs.put {K : PySem.W.Frag} {H : Hp} {k : List Key} {v : V} {d : D} (rv : Rep K H v d) : ∀ {vs : List (List Key × V)} {ds : List (List Key × D)}, RepTs K H vs ds → RepTs K H (putK vs k v) (putTD ds k d) := by
  have repl : ∀ {vs : List (List Key × V)} {ds : List (List Key × D)}, vs.map (·.1) = ds.map (·.1) → Reps K H (vs.map (·.2)) (ds.map (·.2)) → Reps K H ((vs.map fun kv => if kv.1 = k then (kv.1, v) else kv).map (·.2)) ((ds.map fun kv => if kv.1 = k then (kv.1, d) else kv).map (·.2)) := by
    intro vs
    induction vs with
    | nil =>
      intro ds e r
      cases ds with
      | nil => exact .nil
      | cons y ds => cases e
    | cons x vs ih =>
      intro ds e r
      cases ds with
      | nil => cases e
      | cons y ds =>
        rw [List.map_cons, List.map_cons] at e
        injection e with e1 e2
        cases r with
        | cons r1 r2 =>
          have rr := ih e2 r2
          by_cases h : x.1 = k
          · rw [List.map_cons, List.map_cons, List.map_cons, List.map_cons, if_pos h, if_pos (e1 ▸ h)]
            exact .cons rv rr
          · rw [List.map_cons, List.map_cons, List.map_cons, List.map_cons, if_neg h, if_neg (e1 ▸ h)]
            exact .cons r1 rr
  have keys : ∀ {α : Type} (v : α) (vs : List (List Key × α)), (vs.map fun kv => if kv.1 = k then (kv.1, v) else kv).map (·.1) = vs.map (·.1) := fun v vs => by
    rw [List.map_map]
    refine List.map_congr_left fun x _ => ?_
    show (if x.1 = k then (x.1, v) else x).1 = x.1
    split <;> rfl
  intro vs ds r
  unfold putK putTD
  rw [tkeys_any (k := k) r.1]
  split
  · exact ⟨by rw [keys v vs, keys d ds]; exact r.1, repl r.1 r.2⟩
  · refine ⟨by rw [List.map_append, List.map_append, r.1] <;> rfl, ?_⟩
    rw [List.map_append, List.map_append]
    exact r.2.append (.cons rv .nil)
def sPutT (i : Nat) (mt mv : TM) : SM := fun δ κ => mv δ (fun v => ∃ ds, δ[i]? = some (.m (.tdict ds)) ∧ mt δ (fun ld => ∃ ks : List Key, ld = .list (ks.map keyD) ∧ ds.length < sizeLine ∧ κ.nx (δ.set i (.m (.tdict (putTD ds ks v))))) (κ.er δ)) (κ.er δ)
/-! ### list(d) -/
end
end DL
set_option Elab.async false
set_option linter.all false
set_option maxRecDepth 100000
set_option maxHeartbeats 4000000
/-! DL53: single things, single rooms, all ways: plain facts. -/
namespace DL
open PySem PySem.Spec PyProof.Rows L2
variable [TabsC]
theorem setL_perm' {xs : List Int} (hn : xs.Nodup) : (setL xs).Perm xs :=
  (List.perm_ext_iff_of_nodup (setL_pair.imp fun h => Int.ne_of_lt h) hn).mpr fun _ => setL_mem
/-- in a chain the lesser sizes divide the greater ones -/
theorem chain_dvd {l : List Int} (h1 : l.Pairwise (· < ·)) (h2 : l.Pairwise (· ∣ ·)) {a b : Int} (ha : a ∈ l) (hb : b ∈ l) (hl : a ≤ b) : a ∣ b := by
  obtain ⟨i, hi, rfl⟩ := List.mem_iff_getElem.mp ha
  obtain ⟨j, hj, rfl⟩ := List.mem_iff_getElem.mp hb
  rcases Nat.lt_trichotomy i j with c | c | c
  · exact List.pairwise_iff_getElem.mp h2 i j hi hj c
  · subst c; exact Int.dvd_refl _
  · have := List.pairwise_iff_getElem.mp h1 j i hj hi c
    omega
/-! ### a dict as a row of different tuples -/
/-! ### how many different rows there are -/
end DL
set_option Elab.async false
set_option linter.all false
set_option maxRecDepth 100000
set_option maxHeartbeats 4000000
/-! DL54: spare things: plain facts. -/
namespace DL
open PySem PySem.Spec PyProof.Rows L2
variable [TabsC]
def sumT (L : Tab) (s : Int) : Int := ((L.filter fun p => decide (p.1 ≥ s)).map fun p => p.1 * p.2).sum
theorem sumT_cons (p : Int × Int) (r : Tab) (s : Int) : sumT (p :: r) s = (if p.1 ≥ s then p.1 * p.2 else 0) + sumT r s := by
  unfold sumT
  rw [List.filter_cons]
  by_cases h : p.1 ≥ s
  · rw [if_pos (decide_eq_true h), if_pos h, List.map_cons, List.sum_cons]
  · rw [if_neg (by rw [decide_eq_true_eq]; exact h), if_neg h, Int.zero_add]
/-! ### how many more fit -/
end DL
set_option Elab.async false
set_option linter.all false
set_option maxRecDepth 100000
set_option maxHeartbeats 4000000
/-! DL55: a law's end over a head that is run once: what the end leans on is asked of the heap by one Hook. -/
namespace DL
open PySem PySem.Spec PyProof.Rows L2
structure FD where
  at_ : PySem.W.Frag → Addr
  name : Str
  qual : Str
  params : Arguments
  body : List Stmt
  scope : Scope
def fnV (K : PySem.W.Frag) (a : Addr) : He.FnW := match K.lookup a with
  | some ⟨_, _, .func fd, _⟩ => some (fd.name, fd.qualname, fd.params, fd.body, fd.scope, fd.globals, fd.closure, fd.builtins)
  | _ => none
def FD.val (d : FD) : He.FnW := some (d.name, d.qual, d.params, .stmts d.body, d.scope, mainGlobals, [], builtinsNs)
def funOf (K : PySem.W.Frag) (a : Addr) : Option FuncData := match K.lookup a with
  | some ⟨_, _, .func fd, _⟩ => some fd
  | _ => none
theorem fn_look {K : PySem.W.Frag} {a : Addr} {n q : Str} {ps : Arguments} {b : List Stmt} {sc : Scope} (e : fnV K a = some (n, q, ps, .stmts b, sc, mainGlobals, [], builtinsNs)) :
    ∃ oc od dV kV dc pm an cd ct sl, K.lookup a = some ⟨oc, od, .func (PySem.W.fnOf n q ps b sc dV kV dc pm an cd ct), sl⟩ ∧ funOf K a = some (PySem.W.fnOf n q ps b sc dV kV dc pm an cd ct) := by
  unfold fnV at e
  unfold funOf
  cases l : K.lookup a with
  | none => rw [l] at e; cases e
  | some o =>
    obtain ⟨oc, od, dt, osl⟩ := o
    rw [l] at e
    cases dt with
    | func fd =>
      obtain ⟨n1, n2, n3, n4, n5, n6, n7, n8, n9, n10, n11, n12, n13, n14, n15⟩ := fd
      have e2 : (some (n1, n2, n3, n4, n5, n6, n7, n15) : He.FnW) = some (n, q, ps, .stmts b, sc, mainGlobals, [], builtinsNs) := e
      simp only [Option.some.injEq, Prod.mk.injEq] at e2
      obtain ⟨h1, h2, h3, h4, h5, h6, h7, h8⟩ := e2
      subst h1 h2 h3 h4 h5 h6 h7 h8
      exact ⟨oc, od, n8, n9, n10, n11, n12, n13, n14, osl, rfl, rfl⟩
    | _ => cases e
/-- a def of no default -/
def fnB0 (K : PySem.W.Frag) (a : Addr) (q : Str) : Bool := match funOf K a with
  | some fd => PySem.W.codeIn K fd.code q && (match fd.defaults with | .none => true | _ => false)
  | none => false
theorem fn_ok0 {K : PySem.W.Frag} {a : Addr} {n q : Str} {ps : Arguments} {b : List Stmt} {sc : Scope} (e : fnV K a = some (n, q, ps, .stmts b, sc, mainGlobals, [], builtinsNs)) (c : fnB0 K a q = true) :
    ∃ oc od kV dc pm an cd ct sl, K.lookup a = some ⟨oc, od, .func (PySem.W.fnOf n q ps b sc .none kV dc pm an cd ct), sl⟩ ∧ PySem.W.codeIn K cd q = true := by
  obtain ⟨oc, od, dV, kV, dc, pm, an, cd, ct, sl, l, f⟩ := fn_look e
  unfold fnB0 at c
  rw [f] at c
  obtain ⟨c1, c2⟩ := He.ba c
  cases dV with
  | none => exact ⟨oc, od, kV, dc, pm, an, cd, ct, sl, l, c1⟩
  | _ => cases c2
/-- a def of no default at all -/
def fnBx (K : PySem.W.Frag) (a : Addr) (q : Str) : Bool := match funOf K a with
  | some fd => PySem.W.codeIn K fd.code q && ((match fd.defaults with | .none => true | _ => false) && match fd.kwdefaults with | .none => true | _ => false)
  | none => false
theorem fn_okx {K : PySem.W.Frag} {a : Addr} {n q : Str} {ps : Arguments} {b : List Stmt} {sc : Scope} (e : fnV K a = some (n, q, ps, .stmts b, sc, mainGlobals, [], builtinsNs)) (c : fnBx K a q = true) :
    ∃ oc od dc pm an cd ct sl, K.lookup a = some ⟨oc, od, .func (PySem.W.fnOf n q ps b sc .none .none dc pm an cd ct), sl⟩ ∧ PySem.W.codeIn K cd q = true := by
  obtain ⟨oc, od, dV, kV, dc, pm, an, cd, ct, sl, l, f⟩ := fn_look e
  unfold fnBx at c
  rw [f] at c
  obtain ⟨c1, c2⟩ := He.ba c
  obtain ⟨c2, c3⟩ := He.ba c2
  cases dV with
  | none =>
    cases kV with
    | none => exact ⟨oc, od, dc, pm, an, cd, ct, sl, l, c1⟩
    | _ => cases c3
  | _ => cases c2
/-- a property's function -/
def pfOf (K : PySem.W.Frag) (p : Addr) : Addr := match PySem.W.recIn K p "property" with
  | some (.ref f :: _) => f
  | _ => 0
def pfB (K : PySem.W.Frag) (p : Addr) : Bool := match PySem.W.recIn K p "property" with
  | some (.ref _ :: _) => true
  | _ => false
theorem pf_ok {K : PySem.W.Frag} {p : Addr} (c : pfB K p = true) : ∃ rs, PySem.W.recIn K p "property" = some (.ref (pfOf K p) :: rs) := by
  unfold pfB at c
  unfold pfOf
  cases e : PySem.W.recIn K p "property" with
  | none => rw [e] at c; cases c
  | some l =>
    rw [e] at c
    match l, c with
    | .ref f :: rs, _ => exact ⟨rs, rfl⟩
/-- an exception's class -/
def mroB (C : Addr) (tl : List Value) : List Value → Bool
  | .ref c :: bm => decide (c = C) && refsT tl bm
  | _ => false
theorem mroB_ok {C : Addr} {tl : List Value} : ∀ {m : List Value}, mroB C tl m = true → ∃ bm, m = .ref C :: bm ∧ refsT tl bm = true
  | .ref c :: bm, h => by
    obtain ⟨h1, h2⟩ := He.ba (show (decide (c = C) && refsT tl bm) = true from h)
    rw [of_decide_eq_true h1]
    exact ⟨bm, rfl, h2⟩
def slotB (newId : String) : List (Option Value) → Bool
  | [_, _, _, _, some v, _] => decide (v = .builtin newId)
  | _ => false
theorem slotB_ok {newId : String} : ∀ {l : List (Option Value)}, slotB newId l = true → ∃ k0 k1 k2 k3 k5, l = [k0, k1, k2, k3, some (.builtin newId), k5]
  | [k0, k1, k2, k3, some v, k5], h => by
    rw [show v = .builtin newId from of_decide_eq_true h]
    exact ⟨k0, k1, k2, k3, k5, rfl⟩
def xcB (K : PySem.W.Frag) (C : Addr) (tl : List Value) (newId : String) : Bool := match K.lookup C with
  | some ⟨cl, _, .cls cd, sl⟩ => decide (cl = .type "type") && (mroB C tl cd.mro && (cd.hasDict && (!cd.hasDel && slotB newId sl.toList)))
  | _ => false
theorem xc_ok {K : PySem.W.Frag} {C : Addr} {tl : List Value} {newId : String} (c : xcB K C tl newId = true) :
    ∃ n q N bs bm sn sub ab col dd k0 k1 k2 k3 k5, K.lookup C = some (excClassObj n q C N bs bm true sn sub ab col dd k0 k1 k2 k3 k5 newId) ∧ refsT tl bm = true := by
  unfold xcB at c
  cases e : K.lookup C with
  | none => rw [e] at c; cases c
  | some o =>
    obtain ⟨cl, dd, dt, sl⟩ := o
    rw [e] at c
    cases dt with
    | cls cd =>
      obtain ⟨c1, c⟩ := He.ba c
      obtain ⟨c2, c⟩ := He.ba c
      obtain ⟨c3, c⟩ := He.ba c
      obtain ⟨c4, c5⟩ := He.ba c
      obtain ⟨nm, bs, mro, ns, qn, hd, sn, sub, ab, col, dl⟩ := cd
      have c1 := of_decide_eq_true c1
      obtain ⟨bm, em, hr⟩ := mroB_ok (show mroB C tl mro = true from c2)
      obtain ⟨k0, k1, k2, k3, k5, es⟩ := slotB_ok c5
      have c3 : hd = true := c3
      have dl0 : dl = false := by
        have c4 : (!dl) = true := c4
        cases dl <;> first | rfl | cases c4
      have es' : sl = #[k0, k1, k2, k3, some (.builtin newId), k5] := by
        obtain ⟨sl⟩ := sl
        exact congrArg Array.mk es
      subst c1 em c3 dl0 es'
      exact ⟨nm, qn, ns, bs, bm, sn, sub, ab, col, dd, k0, k1, k2, k3, k5, rfl, hr⟩
    | _ => cases c
/-- constants -/
def ciB (K : PySem.W.Frag) (x : Str) (i : Int) : Bool := match PySem.W.nsIn K mainGlobals x with
  | some (some (.int j _)) => decide (j = i)
  | _ => false
theorem ci_ok {K : PySem.W.Frag} {x : Str} {i : Int} (c : ciB K x i = true) : ∃ t, PySem.W.nsIn K mainGlobals x = some (some (.int i t)) := by
  unfold ciB at c
  cases e : PySem.W.nsIn K mainGlobals x with
  | none => rw [e] at c; cases c
  | some o =>
    rw [e] at c
    match o, c with
    | some (.int j t), c =>
      have c : j = i := of_decide_eq_true c
      subst c
      exact ⟨t, rfl⟩
/-! ### the Hook -/
def frM (g : Addr → Option Obj) (n0 n : Nat) : PySem.W.Frag := He.frT g (mainGlobals :: List.range' n0 (n - n0))
def obsM (n0 : Nat) (fn : List FD) (ex : PySem.W.Frag → List Bool) (g : Addr → Option Obj) (n : Nat) : Bool × List He.FnW :=
  ((ex (frM g n0 n)).all id, fn.map fun d => fnV (frM g n0 n) (d.at_ (frM g n0 n)))
structure SaysM (fn : List FD) (ex : PySem.W.Frag → List Bool) (K : PySem.W.Frag) : Prop where
  ex : (ex K).all id = true
  fn : (fn.map fun d => fnV K (d.at_ K)) = fn.map FD.val
def hookM (n0 : Nat) (fn : List FD) (ex : PySem.W.Frag → List Bool) : PySem.W.Hook where
  α := Bool × List He.FnW
  obs := fun s => obsM n0 fn ex s.heap.get? s.heap.objs.size
  val := fun _ => (true, fn.map FD.val)
  says := fun _ h => ∃ K : PySem.W.Frag, K.In h ∧ SaysM fn ex K
  of := fun _ s e => ⟨frM s.heap.get? n0 s.heap.objs.size, He.frT_in, congrArg (fun z : Bool × List He.FnW => z.1) e, congrArg (fun z : Bool × List He.FnW => z.2) e⟩
  keeps := fun _ _ _ ⟨K, hK, c⟩ k => ⟨K, PySem.W.Frag.In.keeps hK k, c⟩
def obM (n0 : Nat) (fn : List FD) (ex : PySem.W.Frag → List Bool) (s : PySem.W.SharedT) : Bool × List He.FnW := obsM n0 fn ex (HandSHeadRun.getT s) s.n
theorem obM_eq {n0 : Nat} {fn : List FD} {ex : PySem.W.Frag → List Bool} (s : PySem.W.SharedT) : obM n0 fn ex s = (hookM n0 fn ex).obs s.abs := by
  have e : HandSHeadRun.getT s = s.abs.heap.get? := funext (HandSHeadRun.getT_eq s)
  have n : s.n = s.abs.heap.objs.size := (PySem.W.absHeap_size s.tree s.n s.life).symm
  show obsM n0 fn ex (HandSHeadRun.getT s) s.n = obsM n0 fn ex s.abs.heap.get? s.abs.heap.objs.size
  rw [e, ← n]
theorem SaysM.b {fn : List FD} {ex : PySem.W.Frag → List Bool} {K : PySem.W.Frag} (c : SaysM fn ex K) (i : Nat) {b : Bool} (h : (ex K)[i]? = some b := by rfl) : b = true := List.all_eq_true.mp c.ex b (List.mem_of_getElem? h)
theorem SaysM.f {fn : List FD} {ex : PySem.W.Frag → List Bool} {K : PySem.W.Frag} (c : SaysM fn ex K) (i : Nat) {d : FD} (h : fn[i]? = some d := by rfl) : fnV K (d.at_ K) = d.val := by
  have e2 : (fn.map fun d => fnV K (d.at_ K))[i]? = (fn.map FD.val)[i]? := by rw [c.fn]
  rw [List.getElem?_map, List.getElem?_map, h] at e2
  exact Option.some.inj e2
/-! ### the end -/
section
variable [TabsC]
theorem walkDE {l : PySem.W.OpenLaw} {k : Nat} {q : Program} {loose : List Str} {XP : (Str → Option Value) → Heap → Prop} {YP : World → Heap → Prop} {d : DefRec} {m : FM} (hT : TabsC.T = []) (hI : importsNone q = true) (hn : l.most = some 63) (hdf : d.params.defaults = []) (hr : Room k callerA) (hm : LawTrue m)
    (F : ∀ (w : World) (mg : Str → Option Value) (fa : Addr) (h : Heap), YP w h → h.Ns mainGlobals mg → mg d.name = some (.ref fa) → ∃ K : PySem.W.Frag, K.In h ∧
      ∀ base : Heap, K.In base → base.Ns mainGlobals mg → FnD l.prog w K mg base k fa m) :
    PySem.W.WalkO q loose XP YP l.row.toRowW d [] (fun f vs => PySem.call f vs) := by
  refine Att.attach_call hn hdf fun w s0 s1 mg mb fa o pm cd doc a vs ns G Y ho hd hcd hmg hobj hints hlen hg => ?_
  obtain ⟨mm, hmm, _⟩ := (G.T.seer hI).mods
  obtain ⟨K, KX, hF⟩ := F w mg fa _ Y G.T.g hmg
  exact law_callD KX G.T.g G.T.b G.T.builtins G.T.nolimit hg hT ⟨mm, hmm⟩ hobj hints hr hF hm hlen
end
end DL
set_option Elab.async false
set_option linter.all false
set_option maxRecDepth 100000
set_option maxHeartbeats 4000000
/-! DL56: counts put together; lots that are easier: plain facts. -/
namespace DL
open PySem PySem.Spec PyProof.Rows L2
variable [TabsC]
/-- a count more -/
def incT (L : Tab) (z n : Int) : Tab := if z ∈ keysT L then L.map (fun p => if p.1 = z then (p.1, p.2 + n) else p) else L ++ [(z, n)]
theorem inc_keys_map (L : Tab) (z n : Int) : keysT (L.map fun p => if p.1 = z then (p.1, p.2 + n) else p) = keysT L := by
  unfold keysT
  rw [List.map_map]
  exact List.map_congr_left fun p _ => by show (if p.1 = z then (p.1, p.2 + n) else p).1 = p.1; split <;> rfl
theorem inc_put {L : Tab} (hn : (keysT L).Nodup) {z n : Int} : putD (tabD L) (.inl z) (.int (cntT L z + n)) = tabD (incT L z n) := by
  unfold incT
  split
  · rename_i hz
    unfold putD
    obtain ⟨p, hp, rfl⟩ := List.mem_map.mp hz
    have any : ((tabD L).any fun kv => decide (kv.1 = Sum.inl p.1)) = true := List.any_eq_true.mpr ⟨(.inl p.1, .int p.2), List.mem_map.mpr ⟨p, hp, rfl⟩, decide_eq_true rfl⟩
    rw [if_pos any]
    unfold tabD
    rw [List.map_map, List.map_map]
    refine List.map_congr_left fun q hq => ?_
    show (if (Sum.inl q.1 : Key) = .inl p.1 then _ else _) = _
    by_cases e : q.1 = p.1
    · rw [if_pos (congrArg Sum.inl e)]
      show _ = (Sum.inl (if q.1 = p.1 then (q.1, q.2 + n) else q).1, D.int (if q.1 = p.1 then (q.1, q.2 + n) else q).2)
      rw [if_pos e, ← e, cntT_mem hn hq]
    · rw [if_neg fun h => e (Sum.inl.inj h)]
      show _ = (Sum.inl (if q.1 = p.1 then (q.1, q.2 + n) else q).1, D.int (if q.1 = p.1 then (q.1, q.2 + n) else q).2)
      rw [if_neg e]
  · rename_i hz
    have c0 : cntT L z = 0 := by
      unfold cntT
      cases e : valT L z with
      | none => rfl
      | some v => exact absurd (List.mem_map.mpr ⟨_, valT_some e, rfl⟩) hz
    rw [c0, Int.zero_add]
    exact putD_new hz
theorem inc_nodup {L : Tab} {z n : Int} (hn : (keysT L).Nodup) : (keysT (incT L z n)).Nodup := by
  unfold incT
  split
  · rw [inc_keys_map]; exact hn
  · rename_i h
    rw [keys_app]
    exact List.nodup_append.mpr ⟨hn, by simp, fun a ha b hb => by rw [List.mem_singleton.mp hb]; exact fun q => h (by rw [← show a = z from q]; exact ha)⟩
/-- counts of two lots -/
def addT (L M : Tab) : Tab := M.foldl (fun acc p => incT acc p.1 p.2) L
theorem addT_snoc (L M : Tab) (p : Int × Int) : addT L (M ++ [p]) = incT (addT L M) p.1 p.2 := by unfold addT; rw [List.foldl_append] <;> rfl
/-! ### a lot as a store -/
/-! ### empty rows -/
theorem eq_nil_int (ns : List Int) {Q : Bool → Prop} (q : Q ns.isEmpty) : fEq (.list (ns.map .int)) (.list []) Q := by
  refine ⟨(fineN_list (n := 0) fun d hd => ?_).fine (by decide), (fineN_list (n := 0) (ds := []) fun d hd => by cases hd).fine (by decide), ?_⟩
  · obtain ⟨i, _, rfl⟩ := List.mem_map.mp hd
    exact fineN_int
  · rw [eqD_list]
    cases ns with
    | nil => exact q
    | cons x r => exact q
end DL
set_option Elab.async false
set_option linter.all false
set_option maxRecDepth 100000
set_option maxHeartbeats 4000000
/-! DL57: zip of three tuples; max and min of ints with a default. -/
namespace DL
open PySem PySem.Spec PyProof.Rows L2
variable [TabsC]
section
variable {X : Cx} {W : WX} {e e2 e3 : Expr} {ba bb : Bool} {la : LM} {mb : TM} {p pos : Pos}
def zip3D : List D → List D → List D → List D
  | x :: xs, y :: ys, z :: zs => .tup [x, y, z] :: zip3D xs ys zs
  | _, _, _ => []
def mZip3 (la : LM) : LM := fun δ P E => la δ (fun ds => ∃ xs ys zs, ds = [.tup xs, .tup ys, .tup zs] ∧ P (zip3D xs ys zs)) E
/-! ### max(ints, default=d), min(ints, default=d) -/
def bestI (mx : Bool) (ns : List Int) (m : Int) : Prop := m ∈ ns ∧ ∀ y, y ∈ ns → if mx = true then y ≤ m else m ≤ y
theorem maxOf_best : ∀ (xs : List Int) (x : Int), bestI true (x :: xs) (PySem.W.maxOf x xs)
  | [], x => ⟨List.mem_cons_self, fun y hy => by rw [List.mem_singleton.mp hy]; exact Int.le_refl _⟩
  | y :: ys, x => by
    have e : PySem.W.maxOf x (y :: ys) = PySem.W.maxOf (if decide (x < y) = true then y else x) ys := rfl
    obtain ⟨h1, h2⟩ := maxOf_best ys (if decide (x < y) = true then y else x)
    rw [e]
    have hx := h2 _ List.mem_cons_self
    rw [if_pos rfl] at hx
    refine ⟨?_, fun z hz => ?_⟩
    · rcases List.mem_cons.mp h1 with h | h
      · rw [h]; split
        · exact List.mem_cons_of_mem _ List.mem_cons_self
        · exact List.mem_cons_self
      · exact List.mem_cons_of_mem _ (List.mem_cons_of_mem _ h)
    · rw [if_pos rfl]
      have lx : x ≤ (if decide (x < y) = true then y else x) ∧ y ≤ (if decide (x < y) = true then y else x) := by
        by_cases c : x < y
        · rw [if_pos (decide_eq_true c)]; omega
        · rw [if_neg (by rw [decide_eq_true_eq]; exact c)]; omega
      rcases List.mem_cons.mp hz with rfl | hz
      · exact Int.le_trans lx.1 hx
      rcases List.mem_cons.mp hz with rfl | hz
      · exact Int.le_trans lx.2 hx
      · have := h2 z (List.mem_cons_of_mem _ hz)
        rwa [if_pos rfl] at this
theorem minOf_best : ∀ (xs : List Int) (x : Int), bestI false (x :: xs) (PySem.W.minOf x xs)
  | [], x => ⟨List.mem_cons_self, fun y hy => by rw [List.mem_singleton.mp hy]; exact Int.le_refl _⟩
  | y :: ys, x => by
    have e : PySem.W.minOf x (y :: ys) = PySem.W.minOf (if decide (y < x) = true then y else x) ys := rfl
    obtain ⟨h1, h2⟩ := minOf_best ys (if decide (y < x) = true then y else x)
    rw [e]
    have hx := h2 _ List.mem_cons_self
    rw [if_neg (by decide)] at hx
    refine ⟨?_, fun z hz => ?_⟩
    · rcases List.mem_cons.mp h1 with h | h
      · rw [h]; split
        · exact List.mem_cons_of_mem _ List.mem_cons_self
        · exact List.mem_cons_self
      · exact List.mem_cons_of_mem _ (List.mem_cons_of_mem _ h)
    · rw [if_neg (by decide)]
      have lx : (if decide (y < x) = true then y else x) ≤ x ∧ (if decide (y < x) = true then y else x) ≤ y := by
        by_cases c : y < x
        · rw [if_pos (decide_eq_true c)]; omega
        · rw [if_neg (by rw [decide_eq_true_eq]; exact c)]; omega
      rcases List.mem_cons.mp hz with rfl | hz
      · exact Int.le_trans hx lx.1
      rcases List.mem_cons.mp hz with rfl | hz
      · exact Int.le_trans hx lx.2
      · have := h2 z (List.mem_cons_of_mem _ hz)
        rwa [if_neg (by decide)] at this
def bestS (mx : Bool) : Str := if mx = true then "max" else "min"
/-- the best of a list of ints, or what was handed -/
def rBestD (K : PySem.W.Frag) (mx : Bool) : List V → V → Hp → VK → Prop := fun vs d H Q => ∃ (l : Addr) (ns : List Int), vs = [V.ref l] ∧ SqL K H l (ns.map V.int) ∧ (ns = [] → Q d H) ∧ ∀ m, bestI mx ns m → Q (.int m) H
theorem hold_ints {h : Heap} {vs : List Value} {ns : List Int} (x : PyProof.Rows.IntsAre vs ns) : PySem.W.HoldAll h vs ns := ⟨_, PyProof.Rows.IntsAre.reads h x⟩
theorem holds_int {h : Heap} {v : Value} {i : Int} (x : PySem.W.Holds h v i) : RelV (.int i) v := by
  obtain ⟨as, r⟩ := x
  have r : PySem.Reads h v (PyData.int i) as := r
  cases r
  exact ⟨_, rfl⟩
theorem pe_bestD (mx : Bool) {te : TA} {td : TE} {kp2 : Pos} (hc : X.calm = true) (hu : X.A.units + 1 < cLine) (hg : Gl X (bestS mx)) (hm : X.mg (bestS mx) = none) (ha : PA X [e] te) (hd : PE X e2 td)
    (he : backTo pos (starEach [e] X.env) = (false, eval e X.env) :: backTo pos (starEach [] X.env) := by rfl) (hpl : (backTo pos (starEach [e] X.env)).any (·.1) = false := by rfl) :
    PE X (.Call (.Name (bestS mx) p) [e] [⟨some "default", e2, kp2⟩] pos) (fun σ H Q => te σ H fun vs H1 => td σ H1 fun d H2 => rBestD X.K mx vs d H2 Q) := by
  refine ⟨fun pins s σ H Q I h => ?_⟩
  cases mx with
  | true =>
    refine wpAny_Call_Name_kw (ld_blt (u := .builtin "max") I hg hm (by decide +kernel) ?_)
    refine PyProof.Rows.callWith_kw (thn (ha.run pos pins s σ H _ I h) fun us s1 ⟨vs, H1, I1, r1, h1⟩ => ?_) he hpl (by rfl) (by rfl)
    show wpAny _ _ (evalAll [(do let v ← eval e2 X.env; standAt pos; pure v)]) _ _ s1
    refine wpAny_evalAll_cons (wpAny_bind (thn (hd.run pins s1 σ H1 _ I1 h1) fun w s2 ⟨d, H2, I2, r2, l, ns, ev, hl, hD, q⟩ => wpAny_bind (wpAny_standAt (wpAny_pure (wpAny_evalAll_nil ?_)))))
    subst ev
    obtain ⟨u, rfl, ru⟩ := vals1 r1
    obtain rfl : u = .ref l := ru
    obtain ⟨its, rv, pl, hz⟩ := I2.list hl
    refine PySem.W.max_list_datum_default (α := Int) (I2.ok.hd hc) pl.isList (by simpa using hold_ints rv.ints) (by show X.A.units + 1 + 0 < _; exact hu) (fun e0 h' tk hk => ⟨d, H2, I2.kept hk, r2, hD e0⟩) fun y ys i v h' tk e0 _ hv hk => ⟨.int _, H2, I2.kept hk, holds_int hv, q _ ?_⟩
    rw [e0]
    exact maxOf_best ys y
  | false =>
    refine wpAny_Call_Name_kw (ld_blt (u := .builtin "min") I hg hm (by decide +kernel) ?_)
    refine PyProof.Rows.callWith_kw (thn (ha.run pos pins s σ H _ I h) fun us s1 ⟨vs, H1, I1, r1, h1⟩ => ?_) he hpl (by rfl) (by rfl)
    show wpAny _ _ (evalAll [(do let v ← eval e2 X.env; standAt pos; pure v)]) _ _ s1
    refine wpAny_evalAll_cons (wpAny_bind (thn (hd.run pins s1 σ H1 _ I1 h1) fun w s2 ⟨d, H2, I2, r2, l, ns, ev, hl, hD, q⟩ => wpAny_bind (wpAny_standAt (wpAny_pure (wpAny_evalAll_nil ?_)))))
    subst ev
    obtain ⟨u, rfl, ru⟩ := vals1 r1
    obtain rfl : u = .ref l := ru
    obtain ⟨its, rv, pl, hz⟩ := I2.list hl
    refine PySem.W.min_list_datum_default (α := Int) (I2.ok.hd hc) pl.isList (by simpa using hold_ints rv.ints) (by show X.A.units + 1 + 0 < _; exact hu) (fun e0 h' tk hk => ⟨d, H2, I2.kept hk, r2, hD e0⟩) fun y ys i v h' tk e0 _ hv hk => ⟨.int _, H2, I2.kept hk, holds_int hv, q _ ?_⟩
    rw [e0]
    exact minOf_best ys y
def mBestD (mx : Bool) (la : LM) (md : TM) : TM := fun δ Q E => la δ (fun ds => md δ (fun d => ∃ ns : List Int, ds = [.list (ns.map .int)] ∧ (ns = [] → Q d) ∧ ∀ m, bestI mx ns m → Q (.int m)) E) E
theorem de_bestD (mx : Bool) {kp2 : Pos} (hc : X.calm = true) (hu : X.A.units + 1 < cLine) (hg : Gl X (bestS mx)) (hm : X.mg (bestS mx) = none) (ha : DA X W [e] true la) (hd : DE X W e2 bb mb)
    (he : backTo pos (starEach [e] X.env) = (false, eval e X.env) :: backTo pos (starEach [] X.env) := by rfl) (hpl : (backTo pos (starEach [e] X.env)).any (·.1) = false := by rfl) :
    DE X W (.Call (.Name (bestS mx) p) [e] [⟨some "default", e2, kp2⟩] pos) bb (mBestD mx la mb) :=
  PE.imp (pe_bestD mx hc hu hg hm ha hd he hpl) fun σ H Q ⟨F, own, δ, P, EK, A, m, q⟩ => ⟨F, own, δ, _, EK, A, m, fun ds vs H1 m1 s1 r1 => ⟨F, own, δ, _, EK, A.on s1, m1, fun d v H2 ⟨ns, e, hD, h⟩ s2 r2 => by
    subst e
    obtain ⟨w, rfl, rr⟩ := (r1.mono s2).one
    obtain ⟨a, us, rfl, g1, g2, g3⟩ := rr.list
    rw [g3.of_ints] at g1
    exact ⟨a, ns, rfl, .of g1, fun e => q _ _ H2 (hD e) (s1.trans s2) r2, fun m hm => q _ _ H2 (h m hm) (s1.trans s2) (.cl (.int m))⟩⟩⟩
end
end DL
set_option Elab.async false
set_option linter.all false
set_option maxRecDepth 100000
set_option maxHeartbeats 4000000
/-! DL58: equality of rows of ints; chains; how many rooms stay when runs are merged. -/
namespace DL
open PySem PySem.Spec PyProof.Rows L2
variable [TabsC]
/-! chains -/
def chN (ns : List Int) : Prop := ascL ns = true ∧ gapL ns = none ∧ 1 ≤ ns.length ∧ ns.length ≤ 12 ∧ ∀ i, i ∈ ns → 1 ≤ i ∧ i < 10 ^ 50
theorem setL_self {ns : List Int} (h : ascL ns = true) : setL ns = ns :=
  (setL_perm' ((pair_asc h).imp fun h => Int.ne_of_lt h)).eq_of_pairwise (le := (· < ·)) (fun a b _ _ h1 h2 => absurd h2 (by omega)) setL_pair (pair_asc h)
/-! how many rooms -/
def sumR (g : Int → Int) (L : Runs) : Int := (L.map fun p => p.2 * g p.1).sum
theorem sumR_append (g : Int → Int) (A B : Runs) : sumR g (A ++ B) = sumR g A + sumR g B := by unfold sumR; rw [List.map_append, List.sum_append]
theorem sumR_one (g : Int → Int) (p : Int × Int) : sumR g [p] = p.2 * g p.1 := by unfold sumR; simp
theorem sumR_step (g : Int → Int) (acc : Runs) (p : Int × Int) : sumR g (mstep acc p) = sumR g acc + p.2 * g p.1 := by
  rcases List.eq_nil_or_concat acc with rfl | ⟨l, q, rfl⟩
  · rw [show mstep [] p = [p] from rfl, sumR_one, show sumR g [] = 0 from rfl, Int.zero_add]
  · rw [List.concat_eq_append, mstep_end]
    split
    · rename_i h
      rw [sumR_append, sumR_append, sumR_one, sumR_one, h, Int.add_mul, Int.add_assoc]
    · rw [sumR_append, sumR_one]
theorem sumR_merge (g : Int → Int) (L : Runs) : sumR g (mergeT L) = sumR g L := by
  have : ∀ n : Nat, sumR g (mergeT (L.take n)) = sumR g (L.take n) := fun n => by
    induction n with
    | zero => rfl
    | succ n ih =>
      by_cases h : n < L.length
      · rw [List.take_succ_eq_append_getElem h, mergeT_snoc, sumR_step, ih, sumR_append, sumR_one]
      · rw [List.take_of_length_le (by omega)] at ih ⊢
        exact ih
  have := this L.length
  rwa [List.take_length] at this
theorem num_sumR (L : Runs) : numT L = sumR (fun _ => 1) L := by
  unfold numT sumR
  congr 1
  exact List.map_congr_left fun p _ => (Int.mul_one _).symm
theorem num_merge (L : Runs) : numT (mergeT L) = numT L := by rw [num_sumR, num_sumR, sumR_merge]
theorem sumR_perm (g : Int → Int) {A B : Runs} (h : A.Perm B) : sumR g A = sumR g B := perm_sum _ h
end DL
set_option Elab.async false
set_option linter.all false
set_option maxRecDepth 100000
set_option maxHeartbeats 4000000
/-! DL59: plain facts that contracts share. -/
namespace DL
open PySem PySem.Spec PyProof.Rows L2
variable [TabsC]
local macro_rules | `(tactic| walk_at "dl") => `(tactic| simp only [DL.sSeq, DL.sSet, DL.sSetM, DL.sNext, DL.sFalse, DL.sBreak, DL.sCont, DL.sExpr, DL.sRet, DL.sRetN, DL.sIf, DL.sAsg, DL.sPar, DL.sParM, DL.sPar3, DL.sApp, DL.sExt, DL.sFor, DL.sFrz, DL.frzD, DL.mC, DL.mVar, DL.mMut, DL.mBin, DL.mCmp, DL.mCmpT, DL.mChain, DL.mChainT, DL.mTest, DL.mVal, DL.mNotT, DL.mAndT, DL.mOrT, DL.mAnd, DL.mOr, DL.mIf, DL.mNil, DL.mCons, DL.mTup, DL.mLst, DL.mB, DL.mCall, DL.mCall0, DL.mThunk, DL.mThk, DL.e_dm0, DL.e_dmv, DL.e_dmu, DL.e_dmm, DL.e_dms, DL.e_dmc, DL.mRepr, DL.sAug, DL.e_fI2, DL.fAugAdd, DL.fAugSub, DL.sRaise, DL.sRaise0, DL.sTry, DL.hsM, DL.hPlain, DL.hAs, DL.mEF, DL.mSFld, DL.sFld, DL.putFD, DL.mMeth0, DL.mProp, DL.mMake, DL.mMakeS, DL.mIsiC, DL.mKeys, DL.mVals, DL.mItems, DL.mDGet2, DL.mFunD, DL.mFunS, DL.mFunM, DL.mFunMS, DL.endK, DL.endM, DV.s.injEq, DL.fIs, DL.fIsNot, DL.e_nn, DL.e_nt, DL.e_nl, DL.e_ni, DL.e_fIx_1, DL.e_fIx_2, DL.e_fIx_3, DL.e_fIx_4, DL.e_fAdd_1, DL.e_fAdd_2, DL.e_fAdd_3, DL.e_fAdd_4, DL.e_fSub_1, DL.e_fEq_i, DL.e_fNe_i, DL.e_fEq_b, DL.e_fNe_b, DL.e_fI_1, DL.fMul, DL.fDiv, DL.fMod, DL.fPow, DL.e_fCmp_1, DL.e_fCmp_2, DL.fLt, DL.fLe, DL.fGt, DL.fGe, DL.e_fIsB_1, DL.e_fIsNotB_1, DL.e_fLen_1, DL.e_fLen_2, DL.e_fLen_3, DL.e_fLen_4, DL.eAbs, DL.eMax2, DL.eMin2, DL.e_fInt_1, DL.e_fInt_2, DL.fStr, DL.e_fTuple_1, DL.e_fTuple_2, DL.e_fList_1, DL.e_fList_2, DL.mDice, DL.mNeg, DL.mSlice, DL.mNoPart, DL.mPart, DL.e_fSlice_1, DL.e_fSlice_2, DL.mSeq, DL.mRange1, DL.mRange2, DL.mRange3, DL.mSigns, DL.mJoin, DL.mRev, DL.mStar, DL.mDGet, DL.mFld, DL.mMeth, DL.sPut, DL.sPutL, DL.sPutT, DL.mCallFn, DL.mCallK, DL.mRepT, DL.mCompK, DL.mListVals, DL.mListItems, DL.mCompD, DL.mRep, DL.sParMM, DL.sAppPop, DL.mSumVals, DL.mEqO, DL.mInO, DL.mLenO, DL.mGetO, DL.mFmt, DL.mJs, DL.mJoined, DL.mStrO, DL.mBinO, DL.e_inD, DL.e_lenD, DL.e_listD, DL.e_tupD, DL.e_eqD, DL.e_neD, DL.e_keyI, DL.e_keyS, DL.mFunMD, DL.mMaxLenD, DL.mTupRg1, DL.mTupRg2, DL.mChain3, DL.fSortSet, DL.mZip, DL.mZipM, DL.mEnumT, DL.mZip3, DL.mBestD, DL.gN, DL.gT, DL.gL, DL.gsNil, DL.gsCons, DL.mYes, DL.mComp, DL.wipeD, DL.mDisp, DL.mPairs, DL.mpNil, DL.mpCons, DL.startD, DL.mFun, List.getElem?_cons_zero, List.getElem?_cons_succ, List.set_cons_zero, List.set_cons_succ, Option.some.injEq, DV.v.injEq, DV.m.injEq, exists_eq_left', exists_eq_left, List.cons.injEq, and_true, true_and, List.map_cons, List.map_nil, List.length_cons, List.length_nil, List.cons_append, List.nil_append, List.replicate_succ, List.replicate_zero, Nat.reduceSub, Nat.reduceAdd, Nat.zero_add, Nat.zero_le, sizeLine_eq, Nat.reduceLeDiff, Int.reduceLE, Int.reduceLT, DL.p61, Int.reduceNeg, Int.zero_add, D.int.injEq, D.bool.injEq, D.str.injEq, D.list.injEq, D.tup.injEq, D.dict.injEq, DL.e_lk, D.obj.injEq, List.drop_zero, List.take_zero, List.take_succ_cons, List.take_nil, List.drop_succ_cons, List.drop_nil, D.script.injEq, Int.reduceToNat, exists_eq_right, exists_eq_right', List.append_nil, DL.ex2, DL.ex3, DL.atI_0, DL.atI_1, DL.cut_01, reduceCtorEq, false_and, and_false, exists_false, false_or, or_false, Bool.not_true, Bool.not_false, Bool.false_eq_true, if_true, if_false, ite_true, ite_false, decide_true, decide_false, reduceIte])
theorem pow_ok1 : CPowD 10 15 := ⟨by decide, by decide⟩
theorem pow_ok2 : CPowD 10 60 := ⟨by decide, by decide⟩
theorem mul_big : IntMulOk (10 ^ 60) (10 ^ 60) := (wide_mul (a := 200) (b := 200) (by decide) (by decide) (by decide) (by decide) (by decide)).ok
def intD : D → Bool
  | .int i => decide (-(10 ^ 200) < i) && decide (i < 10 ^ 200)
  | _ => false
theorem lim_lit : (100000000000000000000000000000000000000000000000000000000000000000000000000000000000000000000000000000000000000000000000000000000000000000000000000000000000000000000000000000000000000000000000000000000 : Int) = 10 ^ 200 := by decide +kernel
def sizD : D → Bool
  | .int i => decide (1 ≤ i) && decide (i < 10 ^ 200)
  | _ => false
theorem siz_eq (i : Int) : sizD (.int i) = (intD (.int i) && decide (i ≥ 1)) := by
  simp only [sizD, intD, ge_iff_le]
  by_cases h : 1 ≤ i
  · rw [decide_eq_true h, decide_eq_true (show -(10 ^ 200) < i by omega)]; simp
  · rw [decide_eq_false h, Bool.false_and, Bool.and_false]
theorem pow_nat (i : Nat) : (100004 : Int) ^ i = ((100004 ^ i : Nat) : Int) := by rw [Int.natCast_pow]; rfl
theorem add_len {L : Tab} {z n : Int} : (incT L z n).length ≤ L.length + 1 := by
  unfold incT
  split
  · rw [List.length_map]; omega
  · rw [List.length_append, List.length_singleton]; omega
def runD : D → Bool
  | .tup [a, b] => sizD a && sizD b
  | _ => false
def runArg (d : D) : Prop := d.tyn.isSome = true ∧ ∀ xs, d = .tup xs → xs.length ≤ 1000 ∧ ∀ x, x ∈ xs → x.tyn.isSome = true
def noE' (nm : Str) : Er := ⟨nm, none⟩
theorem isCls_row {d : D} (h : d.tyn.isSome = true) : isClsD "Row" d = false := by
  cases d with
  | obj n fs => cases h
  | _ => rfl
theorem runD_pair {d : D} (h : runD d = true) : ∃ p : Int × Int, d = pairD p ∧ (1 ≤ p.1 ∧ p.1 < 10 ^ 200) ∧ (1 ≤ p.2 ∧ p.2 < 10 ^ 200) := by
  cases d with
  | tup xs =>
    match xs, h with
    | [a, b], h =>
      simp only [runD, Bool.and_eq_true] at h
      cases a <;> first | cases h.1 | skip
      cases b <;> first | cases h.2 | skip
      rename_i x y
      simp only [sizD, Bool.and_eq_true, decide_eq_true_eq] at h
      exact ⟨(x, y), rfl, h.1, h.2⟩
  | _ => cases h
theorem runs_of : ∀ {ds : List D}, ds.all runD = true → ∃ L : Runs, ds = L.map pairD ∧ ∀ p, p ∈ L → (1 ≤ p.1 ∧ p.1 < 10 ^ 200) ∧ (1 ≤ p.2 ∧ p.2 < 10 ^ 200)
  | [], _ => ⟨[], rfl, fun p hp => by cases hp⟩
  | d :: ds, h => by
    rw [List.all_cons, Bool.and_eq_true] at h
    obtain ⟨p, rfl, hp⟩ := runD_pair h.1
    obtain ⟨L, rfl, hL⟩ := runs_of h.2
    refine ⟨p :: L, rfl, fun q hq => ?_⟩
    rcases List.mem_cons.mp hq with rfl | hq
    · exact hp
    · exact hL q hq
theorem run_arg (p : Int × Int) : runArg (pairD p) := ⟨rfl, fun xs e => by
  cases e
  exact ⟨by rw [List.length_cons, List.length_cons, List.length_nil]; decide, fun x hx => by
    simp only [List.mem_cons, List.not_mem_nil, or_false] at hx
    rcases hx with rfl | rfl <;> rfl⟩⟩
theorem run_yes {p : Int × Int} (h : (1 ≤ p.1 ∧ p.1 < 10 ^ 200) ∧ 1 ≤ p.2 ∧ p.2 < 10 ^ 200) : runD (pairD p) = true := by
  show (sizD (.int p.1) && sizD (.int p.2)) = true
  simp only [sizD, Bool.and_eq_true, decide_eq_true_eq]
  exact h
theorem isCls_store {d : D} (h : d.tyn.isSome = true) : isClsD "Store" d = false := by
  cases d with
  | obj n fs => cases h
  | _ => rfl
theorem pairs_snd {L : Runs} {δ0 : List DV} {i j : Nat} {Q : D → Prop} (hi : i < δ0.length) (hj : j < δ0.length) (hij : i ≠ j) (q : Q (.list ((L.map (·.2)).map .int))) : compL (gT 2 (gsCons (gN i) (gsCons (gN j) gsNil))) mYes (mVar j) δ0 (L.map pairD) [] Q := by
  refine compL_map (fun d => match d with | .tup [_, y] => y | _ => .none) (fun d hd R S hR => ?_) ?_
  · obtain ⟨p, hp, rfl⟩ := List.mem_map.mp hd
    refine ⟨_, rfl, rfl, _, _, rfl, _, _, rfl, rfl, ?_⟩
    walk_at "dl"
    refine ⟨_, ?_, hR⟩
    rw [List.getElem?_set_self (by rw [List.length_set]; exact hj)] <;> rfl
  · rw [List.nil_append, List.map_map]
    rw [List.map_map] at q
    exact q
def numE (d : D) : Er := ⟨"InvalidNumber", some ("value", d)⟩
theorem siz_int {d : D} (h : sizD d = true) : ∃ i, d = .int i ∧ 1 ≤ i ∧ i < 10 ^ 200 := by
  cases d with
  | int i =>
    simp only [sizD, Bool.and_eq_true, decide_eq_true_eq] at h
    exact ⟨i, rfl, h⟩
  | _ => cases h
def profL (ns : List Int) (R : Runs) : List Int := ns.map fun s => spaceT R s
theorem iOf_int (k : Int) : iOf (.int k) = k := rfl
end DL
set_option Elab.async false
set_option linter.all false
set_option maxRecDepth 100000
set_option maxHeartbeats 4000000
/-! DL60: equality of dicts from ints to ints. -/
namespace DL
open PySem PySem.Spec PyProof.Rows L2
end DL
set_option Elab.async false
set_option linter.all false
set_option maxRecDepth 100000
set_option maxHeartbeats 4000000
/-! DL61: which store takes all of another one: plain facts. -/
namespace DL
open PySem PySem.Spec PyProof.Rows L2
variable [TabsC]
def unpairD : D → Int × Int
  | .tup [.int a, .int b] => (a, b)
  | _ => (0, 0)
end DL
set_option Elab.async false
set_option linter.all false
set_option maxRecDepth 100000
set_option maxHeartbeats 4000000
/-! DL62: a, b = e, [..]; a cell of one's own that is lent while an expression is reckoned. -/
namespace DL
open PySem PySem.Spec PyProof.Rows L2
variable [TabsC]
section
variable {X : Cx} {W : WX} {a b e : Expr} {ba : Bool} {ma mb : TM} {x y : Str} {pos : Pos}
def sParVM (i j : Nat) (ma mb : TM) : SM := fun δ k => ma δ (fun d => mb δ (fun e => k.nx ((δ.set i (.v d)).set j (.m e))) (k.er δ)) (k.er δ)
theorem ds_parvm (i j : Nat) {px py pt : Pos} {kt k2 : Nat} {pt2 : Pos} (hc : X.calm = true) (hN : X.N.Nodup) (ha : DE X W a false ma) (hb : DF X W b mb) (hi : X.N[i]? = some x := by rfl) (hj : X.N[j]? = some y := by rfl) (hij : i ≠ j := by decide)
    (hx : X.env.scope.names.lookup x = some .local := by rfl) (hy : X.env.scope.names.lookup y = some .local := by rfl) (hs1 : starEach [a, b] X.env = (false, eval a X.env) :: starEach [b] X.env := by rfl) (hs2 : starEach [b] X.env = (false, eval b X.env) :: starEach [] X.env := by rfl)
    (hw : swappedStores [.Tuple [.Name x px, .Name y py] kt pt] (.Tuple [a, b] k2 pt2) X.env = pure (some [x, y]) := by rfl)
    (hs : swapsWithSole [.Tuple [.Name x px, .Name y py] kt pt] (.Tuple [a, b] k2 pt2) pos.line X.env = pure false := by rfl) : DS X W (.Assign [.Tuple [.Name x px, .Name y py] kt pt] (.Tuple [a, b] k2 pt2) pos) (sParVM i j ma mb) :=
  PS.imp (ps_par hc hN hi hj hij hx hy (pa_cons ha (pa_cons hb pa_nil hs2) hs1) hw hs) fun D σ H ⟨F, own, δ, k, E, h, L⟩ => ⟨F, own, δ, _, _, L.at E, h, fun d v H1 p1 s1 r1 => by
    have E1 := (E.grow s1).set i r1.clean
    exact ⟨F, own, δ, _, _, (L.at E).on s1, p1, fun d2 q H2 pd hq s2 r2 => ⟨_, _, rfl, L.nx _ H2 (q :: own) _ (E1.setm j hq s2 r2) pd⟩⟩⟩
/-! ### lending -/
def flatD : D → Bool
  | .none => true
  | .bool _ => true
  | .int _ => true
  | .str _ => true
  | _ => false
theorem Rep.flat {K : PySem.W.Frag} {H H' : Hp} {v : V} {d : D} (r : Rep K H v d) (h : flatD d = true) : Rep K H' v d := by
  cases r with
  | non => exact .non
  | bool b => exact .bool b
  | int i => exact .int i
  | str x => exact .str x
  | _ => cases h
/-- slot i, a cell of ours, is a plain value while an expression is reckoned; what comes has no parts -/
def mLend (i : Nat) (m : TM) : TM := fun δ Q _ => ∃ d, δ[i]? = some (.m d) ∧ m (δ.set i (.v d)) (fun r => flatD r = true ∧ Q r) NoE
end
end DL
set_option Elab.async false
set_option linter.all false
set_option maxRecDepth 100000
set_option maxHeartbeats 4000000
/-! DL63: isinstance(x, T), T a built-in kind, where x may be an own instance. -/
namespace DL
open PySem PySem.Spec PyProof.Rows L2
variable [TabsC]
def kitBack (K : PySem.W.Frag) (C : Addr) : Bool := ownTys.all fun t => decide (PySem.W.kitOne K (.ref C) (.type t) = some false)
def BackOwn (K : PySem.W.Frag) (others : List Str) : Prop := ∀ (m : Str) (Cm : Addr), m ∈ others → PySem.W.nsIn K mainGlobals m = some (some (.ref Cm)) → kitBack K Cm = true
theorem BackOwn.of {K : PySem.W.Frag} {others : List Str} (tbl : List (Str × Addr)) (h1 : others = tbl.map (·.1)) (hns : ∀ p ∈ tbl, PySem.W.nsIn K mainGlobals p.1 = some (some (.ref p.2)))
    (h2 : (tbl.all fun p => kitBack K p.2) = true) : BackOwn K others := by
  intro m Cm hm em
  rw [h1] at hm
  obtain ⟨p, hp, rfl⟩ := List.mem_map.mp hm
  have ep := hns p hp
  rw [ep] at em
  cases em
  exact List.all_eq_true.mp h2 p hp
def fIsiT (others : List Str) (n : String) (d : D) (Q : D → Prop) : Prop := (∃ t r, d.tyn = some t ∧ kitB t n = some r ∧ Q (.bool r)) ∨ ∃ m fs, d = .obj m fs ∧ m ∈ others ∧ Q (.bool false)
def mIsiT (others : List Str) (n : String) (ma : TM) : TM := fun δ Q E => ma δ (fun d => fIsiT others n d Q) E
section
variable {X : Cx} {W : WX} {a : Expr} {ba : Bool} {ma : TM} {n : String} {pos p p2 : Pos} {others : List Str} {x : Str}
theorem de_isiT (ho : KitOwn X.K others) (hb : BackOwn X.K others) (hin : n ∈ ownTys) (hg : Gl X "isinstance") (hm : X.mg "isinstance" = none) (ha : DE X W a ba ma)
    (hgx : Gl X x) (hmx : X.mg x = none) (hvx : bootBuiltins x = some (.type n)) (hn : x ≠ "__name__" := by decide) (hd : (x == ("__debug__" : Str)) = false := by decide)
    (hs : starEach [a, .Name x p2] X.env = (false, eval a X.env) :: starEach [.Name x p2] X.env := by rfl) (hs2 : starEach [.Name x p2] X.env = (false, eval (.Name x p2) X.env) :: starEach [] X.env := by rfl) (hpl : (backTo pos (starEach [.Name x p2] X.env)).any (·.1) = false := by rfl) :
    DE X W (.Call (.Name "isinstance" p) [a, .Name x p2] [] pos) false (mIsiT others n ma) :=
  PE.imp (pe_callB call_isi hg hm (by decide +kernel) (pa_cons ha (pa_cons (pe_bltn hgx hmx hvx (show RelV (.ty n) (.type n) from rfl) hn hd) pa_nil hs2) hs) (by decide) (by decide) hs hpl) fun σ H Q ⟨F, own, δ, P, EK, A, m, q⟩ => ⟨F, own, δ, _, EK, A, m, fun d v H1 m1 s1 r1 => by
    rcases m1 with ⟨t, r, ht, hk, m1⟩ | ⟨m', fs, rfl, hm', m1⟩
    · exact ⟨v, .ty n, .type t, .type n, r, rfl, .ty n, tyx_rv r1 ht, kit_ty hk, q _ _ H1 m1 s1 (.cl (.bool _))⟩
    · obtain ⟨C', a, dx, vs, hC', rfl, h1, h2⟩ := r1.obj
      have T := ho.ins m' C' hm' hC'
      refine ⟨.ref a, .ty n, .ref C', .type n, false, rfl, .ty n, .base (.ins h1 T.cl T.fc T.sg T.tk T.mo), ?_, q _ _ H1 m1 s1 (.cl (.bool _))⟩
      exact of_decide_eq_true (List.all_eq_true.mp (hb m' C' hm' hC') n hin)⟩
end
/-! what is asked of plain values and of own instances -/
theorem isx_of {d : D} {n : String} {others : List Str} {r : Bool} {Q : D → Prop} (k : ∀ t, d.tyn = some t → kitB t n = some r) (ko : ∀ m fs, d = .obj m fs → r = false) (h : okB others d) : fIsiT others n d Q = Q (.bool r) := by
  refine propext ⟨fun z => ?_, fun z => ?_⟩
  · rcases z with ⟨t, r', ht, hk, q⟩ | ⟨m, fs, e, _, q⟩
    · rw [k t ht] at hk; cases hk; exact q
    · rw [ko m fs e]; exact q
  · rcases h with h | ⟨m, fs, e, hm⟩
    · obtain ⟨t, ht⟩ := Option.isSome_iff_exists.mp h
      exact .inl ⟨t, r, ht, k t ht, z⟩
    · rw [ko m fs e] at z
      exact .inr ⟨m, fs, e, hm, z⟩
section
variable {d : D} {Q : D → Prop} {others : List Str}
theorem isx_int (h : okB others d) : fIsiT others "int" d Q = Q (.bool d.isI) := isx_of (fun _ => kit_int) (fun m fs e => by rw [e]; rfl) h
theorem isx_bool (h : okB others d) : fIsiT others "bool" d Q = Q (.bool d.isB) := isx_of (fun _ => kit_bool) (fun m fs e => by rw [e]; rfl) h
theorem isx_tup (h : okB others d) : fIsiT others "tuple" d Q = Q (.bool d.isT) := isx_of (fun _ => kit_tup) (fun m fs e => by rw [e]; rfl) h
end
end DL
set_option Elab.async false
set_option linter.all false
set_option maxRecDepth 100000
set_option maxHeartbeats 4000000
/-! DL64: profiles and plain stores: plain facts. -/
namespace DL
open PySem PySem.Spec PyProof.Rows L2
variable [TabsC]
def roomsF : List Int → List Int → List Int
  | lo :: hi :: cs, a :: b :: us => (a - b * (hi / lo)) :: roomsF (hi :: cs) (b :: us)
  | _, [a] => [a - 0]
  | _, _ => []
def plainR (ns us : List Int) : Runs := (ns.zip (roomsF ns us)).filter fun p => decide (p.2 > 0)
/-- the units of a plain store, from the greatest size on -/
theorem space_filter (L : Runs) (s : Int) (h : ∀ p, p ∈ L → 0 ≤ p.2) : spaceT (L.filter fun p => decide (p.2 > 0)) s = spaceT L s := by
  induction L with
  | nil => rfl
  | cons p r ih =>
    have hp := h p List.mem_cons_self
    have ih := ih fun q hq => h q (List.mem_cons_of_mem _ hq)
    rw [List.filter_cons]
    by_cases c : p.2 > 0
    · rw [if_pos (decide_eq_true c)]
      unfold spaceT at ih ⊢
      rw [List.map_cons, List.map_cons, List.sum_cons, List.sum_cons, ih]
    · rw [if_neg (by rw [decide_eq_true_eq]; exact c), ih]
      have : p.2 = 0 := by omega
      unfold spaceT
      rw [List.map_cons, List.sum_cons, this, Int.zero_mul, Int.zero_add]
theorem space_cons (p : Int × Int) (r : Runs) (s : Int) : spaceT (p :: r) s = p.2 * (p.1 / s) + spaceT r s := by
  unfold spaceT
  rw [List.map_cons, List.sum_cons]
theorem space_dvd {r : Runs} {lo hi : Int} (h1 : 1 ≤ lo) (h2 : lo ∣ hi) (h : ∀ p, p ∈ r → hi ∣ p.1) (hh : 1 ≤ hi) : spaceT r lo = spaceT r hi * (hi / lo) := by
  induction r with
  | nil => unfold spaceT; simp
  | cons p r ih =>
    rw [space_cons, space_cons, ih fun q hq => h q (List.mem_cons_of_mem _ hq), Int.add_mul]
    congr 1
    obtain ⟨c, e⟩ := h p List.mem_cons_self
    obtain ⟨d, e2⟩ := h2
    subst e2
    rw [e, Int.mul_ediv_cancel_left c (by omega), Int.mul_ediv_cancel_left d (by omega), Int.mul_assoc, Int.mul_ediv_cancel_left _ (by omega), Int.mul_assoc, Int.mul_comm d c]
theorem space_zip : ∀ {ns us : List Int}, ns.Pairwise (· < ·) → ns.Pairwise (· ∣ ·) → (∀ i, i ∈ ns → 1 ≤ i) → ns.length = us.length → ns.map (fun s => spaceT (ns.zip (roomsF ns us)) s) = us
  | [], us, _, _, _, h => by cases us <;> simp_all
  | [lo], us, _, _, hp, h => by
    cases us with
    | nil => simp at h
    | cons a r => cases r with
      | nil =>
        have := hp lo (by simp)
        simp only [List.map_cons, List.map_nil, roomsF, List.zip_cons_cons, List.zip_nil_right, space_cons, Int.sub_zero]
        rw [Int.ediv_self (by omega), Int.mul_one, show spaceT [] lo = 0 from rfl, Int.add_zero]
      | cons b r => simp at h
  | lo :: hi :: cs, us, ha, hd, hp, h => by
    cases us with
    | nil => simp at h
    | cons a r => cases r with
      | nil => simp at h
      | cons b r =>
        have ih := space_zip (ns := hi :: cs) (us := b :: r) (List.pairwise_cons.mp ha).2 (List.pairwise_cons.mp hd).2 (fun i hi => hp i (List.mem_cons_of_mem _ hi)) (by simpa using h)
        have l1 := hp lo List.mem_cons_self
        have l2 := hp hi (by simp)
        have e : (lo :: hi :: cs).zip (roomsF (lo :: hi :: cs) (a :: b :: r)) = (lo, a - b * (hi / lo)) :: (hi :: cs).zip (roomsF (hi :: cs) (b :: r)) := by rw [roomsF, List.zip_cons_cons]
        have hkeys : ∀ p, p ∈ (hi :: cs).zip (roomsF (hi :: cs) (b :: r)) → hi ∣ p.1 := fun p hp' => by
          have hm : p.1 ∈ hi :: cs := (List.of_mem_zip (a := p.1) (b := p.2) hp').1
          rcases List.mem_cons.mp hm with z | z
          · rw [z]; exact Int.dvd_refl _
          · exact (List.pairwise_cons.mp (List.pairwise_cons.mp hd).2).1 _ z
        have hb : spaceT ((hi :: cs).zip (roomsF (hi :: cs) (b :: r))) hi = b := by
          have := congrArg (fun l => l.headD 0) ih
          simpa using this
        rw [e, List.map_cons]
        congr 1
        · rw [space_cons, Int.ediv_self (by omega), Int.mul_one, space_dvd l1 ((List.pairwise_cons.mp hd).1 hi (by simp)) hkeys l2, hb]
          omega
        · rw [← ih]
          refine List.map_congr_left fun s hs => ?_
          have lt := (List.pairwise_cons.mp ha).1 s hs
          rw [space_cons, Int.ediv_eq_zero_of_lt (by omega) lt, Int.mul_zero, Int.zero_add, ih]
theorem prof_plain {ns us : List Int} (ha : ascL ns = true) (hg : gapL ns = none) (hp : ∀ i, i ∈ ns → 1 ≤ i) (hl : ns.length = us.length) (h0 : ∀ r, r ∈ roomsF ns us → 0 ≤ r) : profL ns (plainR ns us) = us := by
  have := space_zip (pair_asc ha) (pair_gap hg) hp hl
  unfold profL plainR
  rw [← this]
  refine List.map_congr_left fun s hs => ?_
  rw [this, space_filter _ _ fun p hp => h0 _ (List.of_mem_zip (a := p.1) (b := p.2) hp).2]
end DL
set_option Elab.async false
set_option linter.all false
set_option maxRecDepth 100000
set_option maxHeartbeats 4000000
/-! DL65: equality of rows of pairs. -/
namespace DL
open PySem PySem.Spec PyProof.Rows L2
variable [TabsC]
theorem eqD_pair (p q : Int × Int) : eqD (pairD p) (pairD q) = decide (p = q) := by
  show eqD (.tup [.int p.1, .int p.2]) (.tup [.int q.1, .int q.2]) = _
  rw [eqD_tup]
  show (eqD (.int p.1) (.int q.1) && (eqD (.int p.2) (.int q.2) && true)) = _
  rw [eqD_int, eqD_int, Bool.and_true, Bool.eq_iff_iff, Bool.and_eq_true, beq_iff_eq, beq_iff_eq, decide_eq_true_eq]
  exact ⟨fun h => Prod.ext h.1 h.2, fun h => by rw [h]; exact ⟨rfl, rfl⟩⟩
theorem eqAll_pairs : ∀ R S : Runs, eqAll (R.map pairD) (S.map pairD) = decide (R = S)
  | [], [] => rfl
  | [], _ :: _ => rfl
  | _ :: _, [] => rfl
  | p :: R, q :: S => by
    show (eqD (pairD p) (pairD q) && eqAll (R.map pairD) (S.map pairD)) = _
    rw [eqD_pair, eqAll_pairs R S, Bool.eq_iff_iff, Bool.and_eq_true, decide_eq_true_eq, decide_eq_true_eq, decide_eq_true_eq, List.cons.injEq]
theorem fine_runs_tup (R : Runs) : (D.tup (R.map pairD)).fine = true := (fineN_tup (n := 1) fun d hd => by
  obtain ⟨p, _, rfl⟩ := List.mem_map.mp hd
  exact fineN_tup (n := 0) (ds := [.int p.1, .int p.2]) fun d hd => by
    simp only [List.mem_cons, List.not_mem_nil, or_false] at hd
    rcases hd with rfl | rfl <;> exact fineN_int).fine (by decide)
theorem fine_runs_list (R : Runs) : (D.list (R.map pairD)).fine = true := (fineN_list (n := 1) fun d hd => by
  obtain ⟨p, _, rfl⟩ := List.mem_map.mp hd
  exact fineN_tup (n := 0) (ds := [.int p.1, .int p.2]) fun d hd => by
    simp only [List.mem_cons, List.not_mem_nil, or_false] at hd
    rcases hd with rfl | rfl <;> exact fineN_int).fine (by decide)
theorem eq_runs (R S : Runs) {Q : Bool → Prop} (q : Q (decide (R = S))) : fEq (.tup (R.map pairD)) (.tup (S.map pairD)) Q :=
  ⟨fine_runs_tup R, fine_runs_tup S, by rw [eqD_tup, eqAll_pairs]; exact q⟩
theorem eq_runsL (R S : Runs) {Q : Bool → Prop} (q : Q (decide (R = S))) : fEq (.list (R.map pairD)) (.list (S.map pairD)) Q :=
  ⟨fine_runs_list R, fine_runs_list S, by rw [eqD_list, eqAll_pairs]; exact q⟩
theorem log_small {i : Int} (h0 : 0 ≤ i) (h1 : i < 10 ^ 200) : i.natAbs.log2 < 1920 := by
  have b : (10 : Int) ^ 200 < 10 ^ 240 := by decide +kernel
  have c : (0 : Int) < 10 ^ 240 := by decide +kernel
  have := log2_lim (i := i) (by generalize (10 : Int) ^ 240 = A at *; omega) (Int.lt_trans h1 b)
  omega
end DL
set_option Elab.async false
set_option linter.all false
set_option maxRecDepth 100000
set_option maxHeartbeats 4000000
/-! DL66: a tuple times one. -/
namespace DL
open PySem PySem.Spec PyProof.Rows L2
variable [TabsC]
section
variable {X : Cx} {W : WX} {a b : Expr} {ba bb : Bool} {ma mb : TM} {pos : Pos}
def mRepU (ma mb : TM) : TM := fun δ Q E => ma δ (fun x => mb δ (fun y => ∃ ds k, x = .tup ds ∧ y = .int k ∧ ds ≠ [] ∧ 1 ≤ k ∧ k ≤ 1000 ∧ ds.length ≤ 1000 ∧ Q (.tup (List.replicate k.toNat ds).flatten)) E) E
end
end DL
set_option Elab.async false
set_option linter.all false
set_option maxRecDepth 100000
set_option maxHeartbeats 4000000
/-! DL67: sorted of pairs of ints, of a list or a tuple. -/
namespace DL
open PySem PySem.Spec PyProof.Rows L2 SrtO
section
variable {prog : Program} {w : World} {A : Around} {E : Value → Shared → Prop} {s : Shared}
theorem collect_tuple {l : Addr} {vs : List Value} {Q : List Value → Shared → Prop} (hl : IsTup s.heap l vs.toArray)
    (h : Q vs { s with heap := (s.heap.push (seqObj "list" #[] 0)).update s.heap.objs.size (Obj.mapSeq (· ++ vs.toArray)) }) (hsz : vs.length ≤ sizeLine) :
    wpAny (model prog w) A (collect (.ref l)) Q E s := by
  obtain ⟨o, ho, hc, n, hd⟩ := id hl
  unfold collect
  refine wpAny_bind (wpAny_runValue (codeAny_builtin entry_proto_collect' ?_))
  show wpAny _ _ (do again (.builtin "list.__iadd__" ⟨[← newList [], .ref l], []⟩)) _ _ s
  refine wpAny_bind (wpAny_newList (wpAny_pure ⟨Code.quiet_builtin _ (by decide +kernel), codeAny_builtin entry_list_iadd' ?_⟩))
  show wpAny _ _ (Builtin.List.listExtendWith (.ref s.heap.objs.size) (.ref l) (.ref s.heap.objs.size)) _ _ { s with heap := s.heap.push (seqObj "list" #[] 0) }
  unfold Builtin.List.listExtendWith
  have ho' : (s.heap.push (seqObj "list" #[] 0)).get? l = some o := Heap.get?_push_of_some _ ho
  refine wpAny_bind (wpAny_typeOf (T := "tuple") ⟨o, ho', hc⟩ ?_)
  have ht : (Value.type "tuple" == Value.type "tuple") = true := by rfl
  rw [if_pos (by rw [ht]; simp)]
  refine wpAny_bind (listItems_at ho' hd ?_)
  refine wpAny_bind (listItems_at (xs := #[]) (n := 0) (Heap.get?_push_size _ rfl) rfl ?_)
  rw [if_neg (by simp)]
  refine wpAny_bind (listUpdate_at (xs := #[]) (n := 0) (Heap.get?_push_size _ rfl) rfl ?_ (Nat.zero_le _) (by show (#[] ++ vs.toArray).size ≤ sizeLine + 1; simp only [Array.size_append, List.size_toArray, List.length_nil]; omega))
  refine wpAny_pure ?_
  show wpAny (model prog w) A (do
      let o ← load s.heap.objs.size
      match o.data with
      | .seq xs _ => pure xs.toList
      | _ => unsupported "internal:collect") Q E { s with heap := (s.heap.push (seqObj "list" #[] 0)).update s.heap.objs.size (Obj.mapSeq (· ++ vs.toArray)) }
  refine wpAny_bind (wpAny_load (get?_update_seq (Heap.get?_push_size _ rfl) _) ?_)
  show wpAny _ _ (pure ((#[] : Array Value) ++ vs.toArray).toList) Q E _
  rw [show ((#[] : Array Value) ++ vs.toArray).toList = vs by simp]
  exact wpAny_pure h
theorem sorted_ordT {l : Addr} {vs : List Value} {ltv : Value → Value → Bool} {Q : Value → Shared → Prop} (O : Swo ltv) (hl : IsTup s.heap l vs.toArray) (hz : vs.length ≤ sizeLine)
    (hS : 2 ≤ vs.length → ∀ (h₁ : Heap) (a : Addr), h₁.get? a = some (seqObj "list" vs.toArray 0) → (∀ b o, s.heap.get? b = some o → b ≠ a ∧ h₁.get? b = some o) → SortableO prog w A.in1.in1 { s with heap := h₁ } a vs ltv)
    (h : ∀ out : List Value, Srtd ltv out → Stb ltv out vs → Q (.ref (s.heap.objs.size + 1)) { s with heap := sortedAll s.heap vs out.toArray }) :
    wpAny (model prog w) A (call (.builtin "sorted") [.ref l]) Q E s := by
  refine Calls.call_function_entry kind_sorted plain_sorted entry_sorted (args_sorted1 _) ?_
  unfold Builtin.«sorted»
  refine wpAny_bind (m := checkCount "sorted" 1 1 _) (wpAny_pure ?_)
  refine wpAny_bind (collect_tuple hl ?_ hz)
  refine wpAny_bind (wpAny_newList ?_ hz)
  have hsz : ((s.heap.push (seqObj "list" #[] 0)).update s.heap.objs.size (Obj.mapSeq (· ++ vs.toArray))).objs.size = s.heap.objs.size + 1 := by
    rw [Heap.size_update, size_push']
  have hoL : (((s.heap.push (seqObj "list" #[] 0)).update s.heap.objs.size (Obj.mapSeq (· ++ vs.toArray))).push (seqObj "list" vs.toArray 0)).get? (s.heap.objs.size + 1) = some (seqObj "list" vs.toArray 0) := by
    rw [← hsz]; exact Heap.get?_push_size _ rfl
  have keep : ∀ b o, s.heap.get? b = some o → b ≠ s.heap.objs.size + 1 ∧ (((s.heap.push (seqObj "list" #[] 0)).update s.heap.objs.size (Obj.mapSeq (· ++ vs.toArray))).push (seqObj "list" vs.toArray 0)).get? b = some o := fun b o q => by
    have hlt : b < s.heap.objs.size := Heap.lt_size q
    refine ⟨Nat.ne_of_lt (Nat.lt_succ_of_lt hlt), Heap.get?_push_of_some _ ?_⟩
    rw [Heap.get?_update_ne _ _ _ _ (Nat.ne_of_lt hlt)]
    exact Heap.get?_push_of_some _ q
  show wpAny _ _ _ _ _ { s with heap := ((s.heap.push (seqObj "list" #[] 0)).update s.heap.objs.size (Obj.mapSeq (· ++ vs.toArray))).push (seqObj "list" vs.toArray 0) }
  rw [hsz]
  refine wpAny_bind (wpAny_holding (wpAny_call_entry slot_list_sort ⟨_, hoL, rfl⟩ entry_list_sort (list_sort_ord O hoL hz (fun h2 => hS h2 _ _ hoL keep) fun out hs hb => ⟨_, rfl, ?_⟩) (args_list_sort _)))
  exact wpAny_pure ⟨_, rfl, h out hs hb⟩
theorem sorted_pairsT {l : Addr} {vs : List Value} {k : Value → Int × Int} {Q : Value → Shared → Prop} (hl : IsTup s.heap l vs.toArray) (hz : vs.length ≤ sizeLine) (hp : ∀ v ∈ vs, Srt.IsPair s.heap v (k v).1 (k v).2)
    (h : ∀ (h' : Heap) (d : Addr) (out : List Value), Srtd (fun v u => lexB (k v) (k u)) out → Stb (fun v u => lexB (k v) (k u)) out vs → (∀ b o, s.heap.get? b = some o → h'.get? b = some o) → s.heap.objs.size ≤ d → (∃ n, h'.get? d = some (seqObj "list" out.toArray n)) → Q (.ref d) { s with heap := h' }) :
    wpAny (model prog w) A (call (.builtin "sorted") [.ref l]) Q E s := by
  refine sorted_ordT (swo_lex k) hl hz (fun h2 h₁ a ha kk => ?_) fun out hs hb => ?_
  · refine pairs_sortableO (s := { s with heap := h₁ }) (by omega) (fun v hm => (hp v hm).keeps fun b o e _ => (kk b o e).2) fun o e => ?_
    have e' : some o = some (seqObj "list" vs.toArray 0) := e.symm.trans ha
    cases e'
    intro c
    exact absurd (Value.type.inj c) (by decide)
  · exact h _ _ out hs hb (fun b o e => sortedAll_old e) (Nat.le_succ _) (sortedAll_at s.heap vs out.toArray)
end
end DL
namespace DL
open PySem PySem.Spec PyProof.Rows L2
variable [TabsC]
def lexLe (p q : Int × Int) : Prop := p.1 < q.1 ∨ (p.1 = q.1 ∧ p.2 ≤ q.2)
def PairA (K : PySem.W.Frag) (H : Hp) (x : V) (m : Int × Int) : Prop := ∃ t, x = V.ref t ∧ SqT K H t [.int m.1, .int m.2]
theorem PairA.inj {X : Cx} {pins : List (Addr × Obj)} {σ : L2.St} {H : Hp} {s : Shared} (I : Inv X pins σ H s) {x : V} {m n : Int × Int} (h : PairA X.K H x m) (h' : PairA X.K H x n) : m = n := by
  obtain ⟨t, rfl, ht⟩ := h
  obtain ⟨t', e, ht'⟩ := h'
  cases e
  obtain ⟨i1, r1, ⟨o, ho, hc, k, hd⟩, _⟩ := I.tuple ht
  obtain ⟨i2, r2, ⟨o', ho', hc', k', hd'⟩, _⟩ := I.tuple ht'
  obtain ⟨u1, u2, rfl, ri, rj⟩ := vals2 r1
  obtain ⟨w1, w2, rfl, si, sj⟩ := vals2 r2
  obtain ⟨t1, rfl⟩ := ri
  obtain ⟨t2, rfl⟩ := rj
  obtain ⟨t3, rfl⟩ := si
  obtain ⟨t4, rfl⟩ := sj
  rw [ho] at ho'
  cases ho'
  rw [hd] at hd'
  have e2 : (#[Value.int m.1 t1, Value.int m.2 t2] : Array Value) = #[Value.int n.1 t3, Value.int n.2 t4] := by injection hd'
  simp at e2
  exact Prod.ext e2.1.1 e2.2.1
/-- sorted(xs), xs a list or a tuple of pairs of ints -/
def rSortP (K : PySem.W.Frag) : List V → Hp → VK → Prop := fun vs H Q => ∃ (a : Addr) (xs : List V), vs = [V.ref a] ∧ (SqL K H a xs ∨ SqT K H a xs) ∧ (∀ x ∈ xs, ∃ m, PairA K H x m) ∧
  ∀ ys p, ys.Perm xs → ys.Pairwise (fun x y => ∀ m n, PairA K H x m → PairA K H y n → lexLe m n) → H p = none → Q (.ref p) (upd H p (.lst ys))
section
variable {X : Cx}
theorem cr_sortP : CallR X (.builtin "sorted") (rSortP X.K) := by
  intro pins s σ H vs us Q I r h
  obtain ⟨a, xs, rfl, hs, hx0, q⟩ := h
  obtain ⟨k, hx⟩ : ∃ k : V → Int × Int, ∀ x ∈ xs, ∃ t, x = V.ref t ∧ SqT X.K H t [.int (k x).1, .int (k x).2] := by
    classical
    refine ⟨fun x => if h : ∃ m, PairA X.K H x m then h.choose else (0, 0), fun x hx => ?_⟩
    have h := hx0 x hx
    show ∃ t, x = V.ref t ∧ SqT X.K H t [.int (if h : ∃ m, PairA X.K H x m then h.choose else (0, 0)).1, .int (if h : ∃ m, PairA X.K H x m then h.choose else (0, 0)).2]
    rw [dif_pos h]
    exact h.choose_spec
  obtain ⟨u, rfl, ru⟩ := vals1 r
  obtain rfl : u = Value.ref a := ru
  have hpair : ∀ its : List Value, Vals xs its → ∀ v, v ∈ its → Srt.IsPair s.heap v (k (backV v)).1 (k (backV v)).2 := fun its rv v hv => by
    obtain ⟨e1, e2⟩ := refs_back rv fun x m => by
      obtain ⟨t, e, _⟩ := hx x m
      exact ⟨t, e⟩
    obtain ⟨t, rfl⟩ := e2 v hv
    have hm : V.ref t ∈ xs := by rw [e1]; exact List.mem_map.mpr ⟨_, hv, rfl⟩
    obtain ⟨t', e, ht⟩ := hx _ hm
    cases e
    obtain ⟨its2, r2, ⟨o, ho, hc, n, hd⟩, _⟩ := I.tuple ht
    obtain ⟨u1, u2, rfl, ri, rj⟩ := vals2 r2
    obtain ⟨t1, rfl⟩ := ri
    obtain ⟨t2, rfl⟩ := rj
    exact ⟨t, o, t1, t2, n, rfl, ho, hc, hd⟩
  have hend : ∀ its : List Value, Vals xs its → xs.length ≤ sizeLine → ∀ (h' : Heap) (d : Addr) (out : List Value), SrtO.Srtd (fun v u => SrtO.lexB (k (backV v)) (k (backV u))) out → SrtO.Stb (fun v u => SrtO.lexB (k (backV v)) (k (backV u))) out its → (∀ b o, s.heap.get? b = some o → h'.get? b = some o) → s.heap.objs.size ≤ d → (∃ n, h'.get? d = some (seqObj "list" out.toArray n)) → ∃ v H', Inv X pins σ H' { s with heap := h' } ∧ RelV v (.ref d) ∧ Q v H' := fun its rv hz h' d out h1 h2 kp hd hn => by
    obtain ⟨e1, e2⟩ := refs_back rv fun x m => by
      obtain ⟨t, e, _⟩ := hx x m
      exact ⟨t, e⟩
    have h3 : ∀ u ∈ out, ∃ a, u = Value.ref a := fun u hu => e2 u (h2.perm.mem_iff.mp hu)
    obtain ⟨n, hn⟩ := hn
    have hb : (out.map backV).Perm xs := by
      rw [e1]
      exact h2.perm.map backV
    refine ⟨.ref d, upd H d (.lst (out.map backV)), I.laid (t' := s.toks) kp hd ⟨?_, out, n, vals_back h3, hn⟩, rfl, q _ d hb (List.Pairwise.imp_of_mem ?_ (SrtO.srtd_map (lt := ltP k) h1)) (I.hok.fresh hd)⟩
    · rw [hb.length_eq]
      exact hz
    intro x y mx my hxy m n hm hn
    have kx := PairA.inj I hm (hx x (hb.mem_iff.mp mx))
    have ky := PairA.inj I hn (hx y (hb.mem_iff.mp my))
    rw [kx, ky]
    have := SrtO.lexB_no.mp (show SrtO.lexB (k y) (k x) = false from hxy)
    unfold lexLe
    omega
  rcases hs with hs | hs
  · obtain ⟨its, rv, hl, hz⟩ := I.list hs
    exact SrtO.sorted_pairsO (k := fun u => k (backV u)) hl.isList (by rw [← rv.length]; exact hz) (hpair its rv) (hend its rv hz)
  · obtain ⟨its, rv, hl, hz⟩ := I.tuple hs
    exact sorted_pairsT (k := fun u => k (backV u)) hl (by rw [← rv.length]; exact hz) (hpair its rv) (hend its rv hz)
end
def insP (p : Int × Int) : Runs → Runs
  | [] => [p]
  | q :: L => if p.1 < q.1 ∨ (p.1 = q.1 ∧ p.2 ≤ q.2) then p :: q :: L else q :: insP p L
def sortP (L : Runs) : Runs := L.foldr insP []
theorem insP_perm (p : Int × Int) : ∀ L : Runs, (insP p L).Perm (p :: L)
  | [] => .refl _
  | q :: L => by
    unfold insP
    split
    · exact .refl _
    · exact ((insP_perm p L).cons q).trans (.swap p q L)
theorem sortP_perm : ∀ L : Runs, (sortP L).Perm L
  | [] => .refl _
  | p :: L => (insP_perm p (sortP L)).trans ((sortP_perm L).cons p)
theorem insP_pw {p : Int × Int} : ∀ {L : Runs}, L.Pairwise lexLe → (insP p L).Pairwise lexLe
  | [], _ => List.pairwise_singleton _ _
  | q :: L, h => by
    unfold insP
    obtain ⟨h1, h2⟩ := List.pairwise_cons.mp h
    split
    · rename_i c
      refine List.pairwise_cons.mpr ⟨fun r hr => ?_, h⟩
      rcases List.mem_cons.mp hr with rfl | hr
      · exact c
      · have := h1 r hr
        unfold lexLe at this ⊢
        omega
    · rename_i c
      refine List.pairwise_cons.mpr ⟨fun r hr => ?_, insP_pw h2⟩
      rcases List.mem_cons.mp ((insP_perm p L).mem_iff.mp hr) with rfl | hr
      · unfold lexLe
        omega
      · exact h1 r hr
theorem sortP_pw : ∀ L : Runs, (sortP L).Pairwise lexLe
  | [] => .nil
  | _ :: L => insP_pw (sortP_pw L)
theorem lex_anti {L M : Runs} (hL : L.Pairwise lexLe) (hM : M.Pairwise lexLe) (h : L.Perm M) : L = M :=
  List.Perm.eq_of_pairwise (fun a b _ _ h1 h2 => by
    unfold lexLe at h1 h2
    refine Prod.ext ?_ ?_ <;> omega) hL hM h
theorem sortP_eq {L M : Runs} (hM : M.Pairwise lexLe) (h : M.Perm L) : M = sortP L := lex_anti hM (sortP_pw L) (h.trans (sortP_perm L).symm)
def fSortP (ds : List D) (Q : D → Prop) : Prop := ∃ L : Runs, (ds = [.list (L.map pairD)] ∨ ds = [.tup (L.map pairD)]) ∧ Q (.list ((sortP L).map pairD))
theorem pair_at {K : PySem.W.Frag} {H H' : Hp} (hs : ∀ {a : Addr} {ys : List V}, SqT K H a ys → SqT K H' a ys) : ∀ {xs : List V} {L : Runs}, Reps K H xs (L.map pairD) → ∀ (i : Nat) (x : V), xs[i]? = some x → ∃ p, L[i]? = some p ∧ ∃ t, x = V.ref t ∧ SqT K H' t [.int p.1, .int p.2]
  | _, [], r, i, x, h => by
    cases r
    simp at h
  | _, p :: L, r, i, x, h => by
    cases r with
    | cons h1 t =>
      cases i with
      | zero =>
        cases h
        cases h1 with
        | tup g1 g2 g3 =>
          rw [g3.of_ints (ns := [p.1, p.2])] at g1
          exact ⟨p, rfl, _, rfl, hs g1⟩
      | succ i => exact pair_at hs t i x (by simpa using h)
theorem link_sortP {X : Cx} : LinkF X.K (rSortP X.K) fSortP := by
  intro fo ls H vs ds P Q ht r ⟨L, e, h⟩ q
  obtain ⟨v, a, xs, rfl, rfl, hs, hl, h3⟩ : ∃ v a xs, vs = [v] ∧ v = V.ref a ∧ (SqL X.K H a xs ∨ SqT X.K H a xs) ∧ xs.length ≤ sizeLine ∧ Reps X.K (sub H ls) xs (L.map pairD) := by
    rcases e with e | e
    · subst e
      obtain ⟨v, rfl, rr⟩ := r.one
      obtain ⟨a, xs, rfl, h1, h2, h3⟩ := rr.list
      exact ⟨_, a, xs, rfl, rfl, .inl (.of h1), h2, h3⟩
    · subst e
      obtain ⟨v, rfl, rr⟩ := r.one
      obtain ⟨a, xs, rfl, h1, h2, h3⟩ := rr.tup
      exact ⟨_, a, xs, rfl, rfl, .inr h1, h2, h3⟩
  have at' : ∀ i x, xs[i]? = some x → ∃ p, L[i]? = some p ∧ PairA X.K H x p := fun i x hi => pair_at (fun z => sameT sub_le z) h3 i x hi
  refine ⟨a, xs, rfl, hs, fun x hx => ?_, fun ys p hp hy hn => ?_⟩
  · obtain ⟨i, hi⟩ := List.getElem?_of_mem hx
    obtain ⟨m, _, e2⟩ := at' i x hi
    exact ⟨m, e2⟩
  · obtain ⟨es, pe, re⟩ := Reps.perm hp h3
    obtain ⟨M, pM, eM⟩ := perm_lift pairD pe L rfl
    subst eM
    have lM : ys.length = M.length := by rw [re.length, List.length_map]
    have hM : M.Pairwise lexLe := by
      refine List.pairwise_iff_getElem.mpr fun i j hi hj hij => ?_
      obtain ⟨n, n1, n2⟩ := pair_at (K := X.K) (fun z => sameT sub_le z) (show Reps X.K (sub H ls) ys (M.map pairD) from re) i _ (List.getElem?_eq_getElem (by omega))
      obtain ⟨m, m1, m2⟩ := pair_at (K := X.K) (fun z => sameT sub_le z) (show Reps X.K (sub H ls) ys (M.map pairD) from re) j _ (List.getElem?_eq_getElem (by omega))
      rw [List.getElem?_eq_getElem hi] at n1
      rw [List.getElem?_eq_getElem hj] at m1
      cases n1
      cases m1
      exact List.pairwise_iff_getElem.mp hy i j (by omega) (by omega) hij _ _ n2 m2
    rw [← sortP_eq hM pM] at h
    exact q _ p _ h hn (same_upd hn) (.l upd_same (by rw [hp.length_eq]; exact hl) (re.mono (sub_fresh hn (same_upd hn))))
end DL
set_option Elab.async false
set_option linter.all false
set_option maxRecDepth 100000
set_option maxHeartbeats 4000000
/-! DL68: fewest rooms, least rooms, least caps: the plain law. -/
namespace DL
open PySem PySem.Spec PyProof.Rows L2
variable [TabsC]
def maxL (ns : List Int) : Int := ns.foldr max 0
theorem maxL_nn (ns : List Int) : 0 ≤ maxL ns := by
  cases ns with
  | nil => exact Int.le_refl 0
  | cons x r =>
    have : 0 ≤ maxL r := maxL_nn r
    show 0 ≤ max x (maxL r)
    omega
theorem maxL_le : ∀ {ns : List Int} {k : Int}, 0 ≤ k → (maxL ns ≤ k ↔ ∀ n, n ∈ ns → n ≤ k)
  | [], k, h => ⟨fun _ n hn => (List.not_mem_nil hn).elim, fun _ => h⟩
  | x :: r, k, h => by
    have ih := maxL_le (ns := r) h
    show max x (maxL r) ≤ k ↔ _
    constructor
    · intro hm n hn
      rcases List.mem_cons.mp hn with rfl | hn
      · omega
      · exact ih.mp (by omega) n hn
    · intro hm
      have := ih.mpr fun n hn => hm n (List.mem_cons_of_mem _ hn)
      have := hm x List.mem_cons_self
      omega
theorem best_max {ns : List Int} {m : Int} (h : bestI true ns m) (hn : ∀ n, n ∈ ns → 0 ≤ n) : m = maxL ns := by
  obtain ⟨h1, h2⟩ := h
  have e1 : m ≤ maxL ns := maxL_le (maxL_nn ns) |>.mp (Int.le_refl _) m h1
  have e2 : maxL ns ≤ m := (maxL_le (hn m h1)).mpr fun n hn => by
    have := h2 n hn
    rw [if_pos rfl] at this
    exact this
  omega
/-! ### so many alike rooms -/
/-! ### the greatest rooms -/
/-! how many units the greatest rooms have, without any order -/
theorem sumR_cons (g : Int → Int) (p : Int × Int) (D : Runs) : sumR g (p :: D) = p.2 * g p.1 + sumR g D := by
  unfold sumR
  rw [List.map_cons, List.sum_cons]
/-! ### caps -/
end DL
set_option Elab.async false
set_option linter.all false
set_option maxRecDepth 100000
set_option maxHeartbeats 4000000
/-! DL69: max and min of ints in a list, a tuple or a dict. -/
namespace DL
open PySem PySem.Spec PyProof.Rows L2
end DL
set_option Elab.async false
set_option linter.all false
set_option maxRecDepth 100000
set_option maxHeartbeats 4000000
/-! DL70: bounds and plain facts for the contracts of the fewest. -/
namespace DL
open PySem PySem.Spec PyProof.Rows L2
variable [TabsC]
/-- runs whose numbers and rooms may be 0 -/
def widN (L : Runs) : Prop := L.length ≤ 1000 ∧ ∀ p, p ∈ L → (0 ≤ p.1 ∧ p.1 < 10 ^ 200) ∧ (0 ≤ p.2 ∧ p.2 < 10 ^ 200)
theorem lim200 {a b : Int} (h1 : 0 ≤ a) (h2 : a < 10 ^ 200) (h3 : 0 ≤ b) (h4 : b < 10 ^ 200) : IntMulOk a b := by
  have h5 : (10 : Int) ^ 200 < 10 ^ 240 := by decide +kernel
  have h0 : (0 : Int) < 10 ^ 240 := by decide +kernel
  have k : (-(10 ^ 240) < a ∧ a < 10 ^ 240) ∧ (-(10 ^ 240) < b ∧ b < 10 ^ 240) := by
    generalize (10 : Int) ^ 240 = A at *
    generalize (10 : Int) ^ 200 = C at *
    omega
  exact mul_lim k.1.1 k.1.2 k.2.1 k.2.2
theorem widN.mul {L : Runs} (h : widN L) : ∀ s : Int, 1 ≤ s → ∀ p, p ∈ L → IntMulOk p.2 (p.1 / s) := fun s hs p hp => by
  have b := h.2 p hp
  have d := div_le' (a := p.1) (s := s) (by omega) hs
  exact lim200 b.2.1 b.2.2 d.1 (by omega)
theorem widR.widN {L : Runs} (h : widR L) : widN L := ⟨h.1, fun p hp => by
  have b := h.2 p hp
  exact ⟨⟨by omega, Int.lt_trans b.1.2 p50_200⟩, by omega, b.2.2⟩⟩
theorem bndR.widN {L : Runs} (h : bndR L) : widN L := h.wid.widN
/-- a chained lot as the package keeps it -/
structure lotC (L : Tab) : Prop where
  b : bndL L
  a : ascL (keysT L) = true
  g : gapL (keysT L) = none
theorem lotC.key {L : Tab} (h : lotC L) : ∀ s, s ∈ keysT L → 1 ≤ s := fun s hs => (bnd_key h.b hs).1
theorem siz_key' {k : Int} (h1 : 1 ≤ k) (h2 : k < 10 ^ 200) : sizD (.int k) = true := by
  simp only [sizD, Bool.and_eq_true, decide_eq_true_eq]
  exact ⟨h1, h2⟩
end DL
set_option Elab.async false
set_option linter.all false
set_option maxRecDepth 100000
set_option maxHeartbeats 4000000
/-! DL71: lots scaled and multiplied; sizes that bar. -/
namespace DL
open PySem PySem.Spec PyProof.Rows L2
variable [TabsC]
def mulL (L : Tab) (n : Int) : Tab := L.map fun p => (p.1, p.2 * n)
theorem mul_keys (L : Tab) (n : Int) : keysT (mulL L n) = keysT L := by
  unfold keysT mulL
  rw [List.map_map] <;> rfl
theorem sortT_self {L : Tab} (h : ascL (keysT L) = true) : sortT L = L := by
  have hn : (keysT L).Nodup := by
    have := pair_asc h
    exact List.nodup_iff_pairwise_ne.mpr (this.imp fun h => by omega)
  unfold sortT
  rw [setL_self h]
  unfold keysT
  rw [List.map_map]
  have : L.map ((fun k => (k, cntT L k)) ∘ fun p => p.1) = L.map id := List.map_congr_left fun p hp => by
    show (p.1, cntT L p.1) = p
    rw [cntT_mem hn hp]
  rw [this, List.map_id]
theorem sumT_dvd {L : Tab} {s : Int} (h : ∀ k, k ∈ keysT L → s ≤ k → s ∣ k) : s ∣ sumT L s := by
  induction L with
  | nil => exact Int.dvd_zero s
  | cons p r ih =>
    rw [sumT_cons]
    refine Int.dvd_add ?_ (ih fun k hk => h k (List.mem_cons_of_mem _ hk))
    split
    · rename_i c
      exact Int.dvd_mul_of_dvd_left (h p.1 List.mem_cons_self c)
    · exact Int.dvd_zero s
theorem lotC.dvd {L : Tab} (h : lotC L) {s : Int} (hs : s ∈ keysT L) : s ∣ sumT L s := sumT_dvd fun k hk hl => chain_dvd (pair_asc h.a) (pair_gap h.g) hs hk hl
theorem lotC.mul {L : Tab} (h : lotC L) {n : Int} (hn : 1 ≤ n) (hb : ∀ p, p ∈ L → p.2 * n < 10 ^ 120) : lotC (mulL L n) := by
  have k := mul_keys L n
  refine ⟨⟨by rw [k]; exact h.b.1, by unfold mulL; rw [List.length_map]; exact h.b.2.1, fun p hp => ?_⟩, by rw [k]; exact h.a, by rw [k]; exact h.g⟩
  obtain ⟨q, hq, rfl⟩ := List.mem_map.mp hp
  have b := h.b.2.2 q hq
  have := Int.mul_le_mul_of_nonneg_left (c := q.2) hn (by omega)
  exact ⟨b.1, by show 1 ≤ q.2 * n; omega, hb q hq⟩
end DL
set_option Elab.async false
set_option linter.all false
set_option maxRecDepth 100000
set_option maxHeartbeats 4000000
/-! DL72: least numbers seen by the sizes that bar. -/
namespace DL
open PySem PySem.Spec PyProof.Rows L2
variable [TabsC]
/-! stores -/
theorem maxL_ge {ns : List Int} {n : Int} (h : n ∈ ns) : n ≤ maxL ns := (maxL_le (maxL_nn ns)).mp (Int.le_refl _) n h
end DL
set_option Elab.async false
set_option linter.all false
set_option maxRecDepth 100000
set_option maxHeartbeats 4000000
/-! DL73: one more thing; the last rooms of an ascending store. -/
namespace DL
open PySem PySem.Spec PyProof.Rows L2
/-! ### one more thing -/
end DL
set_option Elab.async false
set_option linter.all false
set_option maxRecDepth 100000
set_option maxHeartbeats 4000000
/-! DL74: the last rooms of an ascending store are its greatest ones. -/
namespace DL
open PySem PySem.Spec PyProof.Rows L2
end DL
set_option Elab.async false
set_option linter.all false
set_option maxRecDepth 100000
set_option maxHeartbeats 4000000
/-! DL75: parts that fit: the smallest first give the most things, the greatest first the greatest total. -/
namespace DL
open PySem PySem.Spec PyProof.Rows L2
/-! ### sums over the sizes of a chain -/
end DL
set_option Elab.async false
set_option linter.all false
set_option maxRecDepth 100000
set_option maxHeartbeats 4000000
/-! DL76: parts of a lot as tables. -/
namespace DL
open PySem PySem.Spec PyProof.Rows L2
variable [TabsC]
/-- a table over the sizes of a lot -/
structure tabIn (C : Tab) (T : Tab) : Prop where
  n : (keysT T).Nodup
  k : ∀ s, s ∈ keysT T → s ∈ keysT C
  v : ∀ p, p ∈ T → 0 ≤ p.2 ∧ p.2 ≤ cntT C p.1
theorem tabIn.len {C T : Tab} (h : tabIn C T) (hC : lotC C) : T.length ≤ 12 := by
  have h1 : (setL (keysT T)).length ≤ (keysT C).length := (asc_sub setL_pair (pair_asc hC.a) fun k z => h.k k (setL_mem.mp z)).length_le
  rw [← sortT_keys, keys_len, keys_len, (sortT_perm h.n).length_eq] at h1
  exact Nat.le_trans h1 hC.b.2.1
theorem valD_get (L : Tab) (k : Int) : (valD (tabD L) (.inl k)).getD (.int 0) = .int (cntT L k) := by
  rw [valD_tab]
  unfold cntT
  cases valT L k <;> rfl
end DL
set_option Elab.async false
set_option linter.all false
set_option maxRecDepth 100000
set_option maxHeartbeats 4000000
/-! DL77: the end over a head that is run once, for laws with lambdas. -/
namespace DL
open PySem PySem.Spec PyProof.Rows L2
end DL
set_option Elab.async false
set_option linter.all false
set_option maxRecDepth 100000
set_option maxHeartbeats 4000000
/-! DL78: == and `in` over nested data with dicts among it. -/
namespace DL
open PySem PySem.Spec PyProof.Rows L2
variable [TabsC]
/-- a value as it is read, a dict of one's own too -/
def RD (K : PySem.W.Frag) (H : Hp) (v : V) (d : D) : Prop := Rep K H v d ∨ ∃ a xs ds, v = .ref a ∧ d = .dict ds ∧ Rd H a (.dK xs) ∧ RepKs K H xs ds
theorem RD.rep {K : PySem.W.Frag} {H : Hp} {v : V} {d : D} (r : RD K H v d) (n : isDic d = false) : Rep K H v d := by
  rcases r with r | ⟨a, xs, ds, rfl, rfl, _⟩
  · exact r
  · cases n
theorem RD.dict {K : PySem.W.Frag} {H : Hp} {v : V} {ds : List (Key × D)} (r : RD K H v (.dict ds)) : ∃ a xs, v = .ref a ∧ Rd H a (.dK xs) ∧ RepKs K H xs ds := by
  rcases r with r | ⟨a, xs, ds', rfl, e, h, rr⟩
  · cases r with
    | dict h l rr => exact ⟨_, _, rfl, .inr ⟨_, h⟩, rr⟩
  · cases e
    exact ⟨a, xs, rfl, h, rr⟩
/-! ### in, of a list -/
/-! plain facts: dicts of ints, lists of such -/
end DL
set_option Elab.async false
set_option linter.all false
set_option maxRecDepth 100000
set_option maxHeartbeats 4000000
/-! DL79: the parts of a lot, one by one. -/
namespace DL
open PySem PySem.Spec PyProof.Rows L2
end DL
set_option Elab.async false
set_option linter.all false
set_option maxRecDepth 100000
set_option maxHeartbeats 4000000
/-! DL80: tables in a list of dicts; parts that fit. -/
namespace DL
open PySem PySem.Spec PyProof.Rows L2
variable [TabsC]
theorem tot_le {B : Int} (hB : 0 ≤ B) : ∀ {L : Tab}, (∀ p, p ∈ L → 0 ≤ p.1 ∧ p.1 ≤ B ∧ 0 ≤ p.2) → totT L ≤ B * numT L
  | [], _ => by show (0 : Int) ≤ B * 0; omega
  | p :: r, h => by
    have ih := tot_le hB (L := r) fun q hq => h q (List.mem_cons_of_mem _ hq)
    have hp := h p List.mem_cons_self
    have e1 : totT (p :: r) = p.1 * p.2 + totT r := by unfold totT; rw [List.map_cons, List.sum_cons]
    have e2 : numT (p :: r) = p.2 + numT r := by unfold numT; rw [List.map_cons, List.sum_cons]
    rw [e1, e2, Int.mul_add]
    have := Int.mul_le_mul_of_nonneg_right hp.2.1 hp.2.2
    omega
end DL
set_option Elab.async false
set_option linter.all false
set_option maxRecDepth 100000
set_option maxHeartbeats 4000000
/-! DL81: list + list as a new list of one's own. -/
namespace DL
open PySem PySem.Spec PyProof.Rows L2
variable [TabsC]
section
variable {X : Cx} {W : WX} {a b c e : Expr} {ba bb : Bool} {ma mb : TM} {pos p apos cpos : Pos}
def fAddL (x y : D) (Q : D → Prop) : Prop := match x, y with
  | .list xs, .list ys => xs.length + ys.length ≤ sizeLine ∧ Q (.list (xs ++ ys))
  | _, _ => False
theorem e_fAddL {xs ys : List D} {Q : D → Prop} : fAddL (.list xs) (.list ys) Q = (xs.length + ys.length ≤ sizeLine ∧ Q (.list (xs ++ ys))) := rfl
end
end DL
set_option Elab.async false
set_option linter.all false
set_option maxRecDepth 100000
set_option maxHeartbeats 4000000
/-! DL82: paying greatest coins first. -/
namespace DL
open PySem PySem.Spec PyProof.Rows L2
end DL
set_option Elab.async false
set_option linter.all false
set_option maxRecDepth 100000
set_option maxHeartbeats 4000000
/-! DL83: a name stored within a test; while. -/
namespace DL
open PySem PySem.Spec PyProof.Rows L2
variable [TabsC]
section
variable {X : Cx} {W : WX} {a b c e : Expr} {ba bb : Bool} {ma mb : TM} {na : BM} {sts sts' : List Stmt} {m m' : SM} {pos p1 p2 p3 p4 : Pos} {j : Nat}
def sIfW (neg : Bool) (i : Nat) (ma : TM) (m m' : SM) : SM := fun δ k => ma δ (fun d => if (neg ^^ isNoneD d) = true then m (δ.set i (.v d)) k else m' (δ.set i (.v d)) k) (k.er δ)
end
end DL
set_option Elab.async false
set_option linter.all false
set_option maxRecDepth 100000
set_option maxHeartbeats 4000000
/-! DL84: rooms by their index; shutters. -/
namespace DL
open PySem PySem.Spec PyProof.Rows L2
variable [TabsC]
theorem num_append (A B : Runs) : numT (A ++ B) = numT A + numT B := by unfold numT; rw [List.map_append, List.sum_append]
end DL
set_option Elab.async false
set_option linter.all false
set_option maxRecDepth 100000
set_option maxHeartbeats 4000000
/-! DL85: rooms of merged rows; a claim for any row that is drawn. -/
namespace DL
open PySem PySem.Spec PyProof.Rows L2
variable [TabsC]
/-- a goal that is wanted for every a of a kind -/
theorem for_each {α : Type} {good : α → Prop} {F : α → Prop} {G : Prop} (h : (∀ a, good a → F a) → G) (r : ∀ a, good a → F a) : G := h r
end DL
set_option Elab.async false
set_option linter.all false
set_option maxRecDepth 100000
set_option maxHeartbeats 4000000
/-! DL86: shutters, listed and decided. -/
namespace DL
open PySem PySem.Spec PyProof.Rows L2
end DL
set_option Elab.async false
set_option linter.all false
set_option maxRecDepth 100000
set_option maxHeartbeats 4000000
/-! DL87: list(zip(a, b)), at the library's level. -/
namespace PySem
end PySem
namespace DL
open PySem PySem.Spec PyProof.Rows L2
variable [TabsC]
/-- the zip at z and its parts, before turn i -/
def ZSt (z TI TO i1 i2 a b : Addr) (i : Nat) (h : Heap) : Prop :=
  ((IsZip h z TI TO .none ∧ ∃ x y, PySem.IsTupOf2 h TO x y) ∨ ∃ T f oT, IsZipHeld h z TI TO T f ∧ h.get? T = some oT ∧ oT.cls = .type "tuple" ∧ T ∉ [z, TI, TO, i1, i2] ∧ ∃ x y, PySem.IsTupOf2 h TO x y) ∧ PySem.IsTupOf2 h TI (.ref i1) (.ref i2) ∧ h.IsTupleIter i1 a i ∧ h.IsTupleIter i2 b i
theorem ZSt.keep {z TI TO i1 i2 a b : Addr} {i : Nat} {h h' : Heap} {S : Addr} (st : ZSt z TI TO i1 i2 a b i h) (hS : S ∉ [z, TI, TO, i1, i2]) (hl : ∀ o, h.get? S = some o → o.cls ≠ .type "tuple") (k : ∀ c o, c ≠ S → h.get? c = some o → h'.get? c = some o) : ZSt z TI TO i1 i2 a b i h' := by
  obtain ⟨st, hTI, h1, h2⟩ := st
  have ne : ∀ c, c ∈ [z, TI, TO, i1, i2] → c ≠ S := fun c hc e => hS (e ▸ hc)
  refine ⟨?_, k _ _ (ne _ (by simp)) hTI, h1.at fun o q => k _ _ (ne _ (by simp)) q, h2.at fun o q => k _ _ (ne _ (by simp)) q⟩
  rcases st with ⟨hz, x, y, hTO⟩ | ⟨T, f, oT, hz, hT, hc, hn, x, y, hTO⟩
  · exact .inl ⟨k _ _ (ne _ (by simp)) hz, x, y, k _ _ (ne _ (by simp)) hTO⟩
  · exact .inr ⟨T, f, oT, k _ _ (ne _ (by simp)) hz, k _ _ (fun e => hl oT (e ▸ hT) hc) hT, hc, hn, x, y, k _ _ (ne _ (by simp)) hTO⟩
section
variable {X : Cx} {W : WX} {e e2 : Expr} {ba : Bool} {la : LM} {p p2 pos pos2 : Pos}
/-- list(zip(x, y)) of two tuples -/
def mListZip (la : LM) : TM := fun δ Q E => la δ (fun ds => ∃ xs ys, ds = [.tup xs, .tup ys] ∧ Q (.list (zipD xs ys))) E
end
end DL
set_option Elab.async false
set_option linter.all false
set_option maxRecDepth 100000
set_option maxHeartbeats 4000000
/-! DL88: sum of a tuple of ints. -/
namespace DL
open PySem PySem.Spec PyProof.Rows L2
variable [TabsC]
section
variable {X : Cx}
def fSumT (ds : List D) (Q : D → Prop) : Prop := ∃ ns : List Int, ds = [.tup (ns.map .int)] ∧ Q (.int ns.sum)
end
end DL
set_option Elab.async false
set_option linter.all false
set_option maxRecDepth 100000
set_option maxHeartbeats 4000000
/-! DL89: profiles given by a function of the size; the common and the joint store. -/
namespace DL
open PySem PySem.Spec PyProof.Rows L2
variable [TabsC]
/-- a function of the size that is a profile: of numbers below 10 ** 200, a unit is parted into units below -/
structure ProfF (ns : List Int) (f : Int → Int) : Prop where
  bnd : ∀ s, s ∈ ns → 0 ≤ f s ∧ f s < 10 ^ 200
  stp : ∀ lo hi, lo ∈ ns → hi ∈ ns → lo ∣ hi → f hi * (hi / lo) ≤ f lo
theorem ProfF.rooms {f : Int → Int} : ∀ {ns : List Int}, ns.Pairwise (· ∣ ·) → ProfF ns f → ∀ r, r ∈ roomsF ns (ns.map f) → 0 ≤ r
  | [], _, _, r, h => by simp [roomsF] at h
  | [lo], _, hp, r, h => by
    simp only [roomsF, List.map_cons, List.map_nil, List.mem_cons, List.not_mem_nil, or_false, Int.sub_zero] at h
    rw [h]
    exact (hp.bnd lo (by simp)).1
  | lo :: hi :: cs, hd, hp, r, h => by
    have e : roomsF (lo :: hi :: cs) ((lo :: hi :: cs).map f) = (f lo - f hi * (hi / lo)) :: roomsF (hi :: cs) ((hi :: cs).map f) := rfl
    rw [e] at h
    rcases List.mem_cons.mp h with h | h
    · have := hp.stp lo hi (by simp) (by simp) ((List.pairwise_cons.mp hd).1 hi (by simp))
      omega
    · exact ProfF.rooms (List.pairwise_cons.mp hd).2 ⟨fun s hs => hp.bnd s (List.mem_cons_of_mem _ hs), fun a b ha hb => hp.stp a b (List.mem_cons_of_mem _ ha) (List.mem_cons_of_mem _ hb)⟩ r h
theorem ProfF.len (ns : List Int) (f : Int → Int) : ns.length = (ns.map f).length := (List.length_map f).symm
/-- its plain store -/
def plF (ns : List Int) (f : Int → Int) : Runs := plainR ns (ns.map f)
theorem plF_prof {ns : List Int} {f : Int → Int} (hn : chN ns) (h : ProfF ns f) : profL ns (plF ns f) = ns.map f :=
  prof_plain hn.1 hn.2.1 (fun i hi => (hn.2.2.2.2 i hi).1) (ProfF.len ns f) (h.rooms (pair_gap hn.2.1))
theorem plF_space {ns : List Int} {f : Int → Int} (hn : chN ns) (h : ProfF ns f) {s : Int} (hs : s ∈ ns) : spaceT (plF ns f) s = f s := List.map_inj_left.mp (plF_prof hn h) s hs
theorem ProfF.plain {ns : List Int} {f : Int → Int} (hn : chN ns) (h : ProfF ns f) : ProfF ns (spaceT (plF ns f)) :=
  ⟨fun s hs => by rw [plF_space hn h hs]; exact h.bnd s hs, fun lo hi h1 h2 hd => by rw [plF_space hn h h1, plF_space hn h h2]; exact h.stp lo hi h1 h2 hd⟩
end DL
set_option Elab.async false
set_option linter.all false
set_option maxRecDepth 100000
set_option maxHeartbeats 4000000
/-! DL90: xs.count(k), xs a list of ints. -/
namespace DL
open PySem PySem.Spec PyProof.Rows L2
variable [TabsC]
section
variable {X : Cx} {W : WX} {o e : Expr} {ba bb : Bool} {ma mb : TM} {apos cpos : Pos}
def mLCount (ma mb : TM) : TM := fun δ Q E => ma δ (fun x => ∃ ns : List Int, x = .list (ns.map .int) ∧ mb δ (fun y => ∃ k : Int, y = .int k ∧ Q (.int (ns.count k : Nat))) E) E
end
end DL
set_option Elab.async false
set_option linter.all false
set_option maxRecDepth 100000
set_option maxHeartbeats 4000000
/-! DL91: the first and the last things of a lot, the thing at an index. -/
namespace DL
open PySem PySem.Spec PyProof.Rows L2
variable [TabsC]
/-- counts that are not below 0 -/
def nnT (L : Tab) : Prop := ∀ p, p ∈ L → 0 ≤ p.2
theorem numT_cons (p : Int × Int) (r : Tab) : numT (p :: r) = p.2 + numT r := rfl
theorem nnT.num : ∀ {L : Tab}, nnT L → 0 ≤ numT L
  | [], _ => Int.le_refl _
  | p :: r, h => by
    have := h p (by simp)
    have := nnT.num (L := r) fun q hq => h q (List.mem_cons_of_mem _ hq)
    rw [numT_cons]; omega
end DL
set_option Elab.async false
set_option linter.all false
set_option maxRecDepth 100000
set_option maxHeartbeats 4000000
/-! DL92: a lot's things as a row; both ends together make the lot. -/
namespace DL
open PySem PySem.Spec PyProof.Rows L2
variable [TabsC]
/-- ascending tables with counts of at least 1 are told by their counts -/
theorem tab_same {A B : Tab} (hA : ascL (keysT A) = true) (hB : ascL (keysT B) = true) (pA : ∀ p, p ∈ A → 1 ≤ p.2) (pB : ∀ p, p ∈ B → 1 ≤ p.2) (h : ∀ k, cntT A k = cntT B k) : A = B := by
  have key : ∀ {T : Tab}, ascL (keysT T) = true → (∀ p, p ∈ T → 1 ≤ p.2) → ∀ k, k ∈ keysT T ↔ 1 ≤ cntT T k := fun {T} a hp k => by
    have nd : (keysT T).Nodup := (pair_asc a).imp fun h => by omega
    constructor
    · intro hk
      obtain ⟨p, hq, rfl⟩ := List.mem_map.mp hk
      rw [cntT_mem nd hq]
      exact hp p hq
    · intro hk
      refine Decidable.byContradiction fun c => ?_
      unfold cntT at hk
      rw [valT_none c] at hk
      exact absurd hk (by decide)
  have e : setL (keysT A) = setL (keysT B) := setL_congr fun k => by rw [key hA pA, key hB pB, h k]
  rw [← sortT_self hA, ← sortT_self hB]
  unfold sortT
  rw [e]
  exact List.map_congr_left fun k _ => by rw [h k]
end DL
set_option Elab.async false
set_option linter.all false
set_option maxRecDepth 100000
set_option maxHeartbeats 4000000
/-! DL93: a lot's two ends. -/
namespace DL
open PySem PySem.Spec PyProof.Rows L2
variable [TabsC]
def okM (M : Tab) : Prop := (keysT M).Pairwise (· < ·) ∧ M.length ≤ 12 ∧ ∀ p, p ∈ M → 1 ≤ p.2 ∧ p.2 ≤ 10 ^ 60
theorem okM.nd {M : Tab} (h : okM M) : (keysT M).Nodup := h.1.imp fun h => by omega
theorem okM.pos {M : Tab} (h : okM M) : ∀ p, p ∈ M → 1 ≤ p.2 := fun p hp => (h.2.2 p hp).1
end DL
set_option Elab.async false
set_option linter.all false
set_option maxRecDepth 100000
set_option maxHeartbeats 4000000
/-! DL94: least numbers by single rooms. -/
namespace DL
open PySem PySem.Spec PyProof.Rows L2
end DL
set_option Elab.async false
set_option linter.all false
set_option maxRecDepth 100000
set_option maxHeartbeats 4000000
/-! DL95: a dict merged into a new one ({**d, ..}). -/
namespace PySem
end PySem
namespace PySem
end PySem
set_option Elab.async false
set_option linter.all false
set_option maxRecDepth 100000
set_option maxHeartbeats 4000000
/-! DL96: {**d, k: v}. -/
namespace DL
open PySem PySem.Spec PyProof.Rows L2
def mDStar (md mk mv : TM) : TM := fun δ Q E => md δ (fun d => ∃ ds : List (Key × D), d = .dict ds ∧ ds.length ≤ 1000 ∧ mk δ (fun x => mv δ (fun y => ∃ k : Key, x = keyD k ∧ Q (.dict (putD (mergeD [] ds) k y))) E) E) E
section
variable [TabsC]
theorem At.grab {K : PySem.W.Frag} {W : WX} {σ : L2.St} {H H' : Hp} {F : Fm} {own : List Addr} {δ : List DV} {EK : Er → Prop} {p : Addr} (A : At K W σ H F own δ EK) (hp : H p = none) (s : Same H H') (hn : ∃ o, H' p = some o ∧ Plain o) :
    At K W σ H' F (p :: own) δ EK :=
  ⟨A.env.grab hp s hn, fun er cls dd H'' k s' r => A.pass er cls dd H'' k (s.trans s') (r.less fun b hb => (List.mem_append.mp hb).elim (fun z => List.mem_append_left _ z) fun z => List.mem_append_right _ (List.mem_cons_of_mem _ z))⟩
end
end DL
set_option Elab.async false
set_option linter.all false
set_option maxRecDepth 100000
set_option maxHeartbeats 4000000
/-! DL97: tables told by their counts. -/
namespace DL
open PySem PySem.Spec PyProof.Rows L2
section
variable [TabsC]
theorem cnt_out {L : Tab} {k : Int} (h : k ∉ keysT L) : cntT L k = 0 := by
  unfold cntT
  rw [valT_none h] <;> rfl
theorem nd_asc {L : Tab} (a : ascL (keysT L) = true) : (keysT L).Nodup := List.nodup_iff_pairwise_ne.mpr ((pair_asc a).imp fun h => by omega)
theorem cnt_snoc {L : Tab} {k z n : Int} (h : z ∉ keysT L) : cntT (L ++ [(z, n)]) k = cntT L k + if k = z then n else 0 := by
  unfold cntT valT
  rw [List.find?_append]
  by_cases e : k = z
  · subst e
    have : L.find? (fun p => decide (p.1 = k)) = none := List.find?_eq_none.mpr fun p hp q => h (List.mem_map.mpr ⟨p, hp, of_decide_eq_true q⟩)
    rw [this, if_pos rfl]
    simp
  · rw [if_neg e]
    have : List.find? (fun p : Int × Int => decide (p.1 = k)) [(z, n)] = none := by simp [Ne.symm e]
    rw [this, Option.or_none]
    omega
theorem inc_at {L : Tab} (hn : (keysT L).Nodup) (z n k : Int) : cntT (incT L z n) k = cntT L k + if k = z then n else 0 := by
  have nd := inc_nodup (z := z) (n := n) hn
  by_cases hz : z ∈ keysT L
  · unfold incT at nd ⊢
    rw [if_pos hz] at nd ⊢
    by_cases hk : k ∈ keysT L
    · obtain ⟨p, hp, rfl⟩ := List.mem_map.mp hk
      have := cntT_mem nd (List.mem_map.mpr ⟨p, hp, rfl⟩)
      rw [cntT_mem hn hp]
      by_cases e : p.1 = z
      · rw [if_pos e] at this ⊢
        exact this
      · rw [if_neg e] at this ⊢
        rw [this]; omega
    · rw [cnt_out (by rw [inc_keys_map]; exact hk), cnt_out hk, if_neg (fun e : k = z => hk (by rw [e]; exact hz))] <;> rfl
  · unfold incT
    rw [if_neg hz]
    exact cnt_snoc hz
end
end DL
set_option Elab.async false
set_option linter.all false
set_option maxRecDepth 100000
set_option maxHeartbeats 4000000
/-! DL98: a lot's record: ascending sizes, counts of at least 1, with bounds. -/
namespace DL
open PySem PySem.Spec PyProof.Rows L2
section
variable [TabsC]
structure recOk (P : Tab) (K B : Int) : Prop where
  a : ascL (keysT P) = true
  l : P.length ≤ 12
  b : ∀ p, p ∈ P → (1 ≤ p.1 ∧ p.1 ≤ K) ∧ 1 ≤ p.2 ∧ p.2 ≤ B
theorem recOk.nd {P : Tab} {K B : Int} (h : recOk P K B) : (keysT P).Nodup := nd_asc h.a
theorem recOk.pos {P : Tab} {K B : Int} (h : recOk P K B) : ∀ p, p ∈ P → 1 ≤ p.2 := fun p hp => (h.b p hp).2.1
end
end DL
set_option Elab.async false
set_option linter.all false
set_option maxRecDepth 100000
set_option maxHeartbeats 4000000
/-! DL99: sums and differences of records. -/
namespace DL
open PySem PySem.Spec PyProof.Rows L2
end DL
set_option Elab.async false
set_option linter.all false
set_option maxRecDepth 100000
set_option maxHeartbeats 4000000
/-! DL100: records told by their counts; dict(list of pairs of a table). -/
namespace DL
open PySem PySem.Spec PyProof.Rows L2
section
variable [TabsC]
theorem recOk.at {P : Tab} {K B : Int} (h : recOk P K B) (k : Int) : cntT P k = 0 ∨ ((1 ≤ k ∧ k ≤ K) ∧ 1 ≤ cntT P k ∧ cntT P k ≤ B) := by
  by_cases e : k ∈ keysT P
  · obtain ⟨p, hp, rfl⟩ := List.mem_map.mp e
    rw [cntT_mem h.nd hp]
    exact .inr (h.b p hp)
  · exact .inl (cnt_out e)
theorem num_len {B : Int} : ∀ {P : Tab}, (∀ p, p ∈ P → p.2 ≤ B) → numT P ≤ P.length * B
  | [], _ => by show (0 : Int) ≤ ((0 : Nat) : Int) * B; rw [Int.natCast_zero, Int.zero_mul]; exact Int.le_refl 0
  | p :: r, h => by
    have ih := num_len (P := r) fun q hq => h q (List.mem_cons_of_mem _ hq)
    have h1 := h p List.mem_cons_self
    show p.2 + numT r ≤ _
    rw [List.length_cons, Int.natCast_add, Int.natCast_one, Int.add_mul, Int.one_mul]
    omega
end
end DL
set_option Elab.async false
set_option linter.all false
set_option maxRecDepth 100000
set_option maxHeartbeats 4000000
/-! DL101: sums over tables that are added. -/
namespace DL
open PySem PySem.Spec PyProof.Rows L2
section
variable [TabsC]
theorem tot_sumR (L : Tab) : totT L = sumR (fun s => s) L := by
  unfold totT sumR
  congr 1
  exact List.map_congr_left fun p _ => Int.mul_comm _ _
end
end DL
set_option Elab.async false
set_option linter.all false
set_option maxRecDepth 100000
set_option maxHeartbeats 4000000
/-! DL102: a class whose __iter__ gives iter(self.f), f a tuple or a dict: list(o). -/
namespace DL
open PySem PySem.Spec PyProof.Rows L2
variable [TabsC]
def tupIt (t : Addr) : Obj := { cls := .type "tuple_iterator", data := .fields #[.ref t, .int 0 0] }
def keyIt (d : Addr) (n ep : Nat) : Obj := { cls := .type "dict_keyiterator", data := .fields #[.ref d, .int 0 0, .int n 0, .int ep 0] }
/-- what is walked -/
def SrcV (K : PySem.W.Frag) (H : Hp) (v : V) (ys : List V) : Prop :=
  (∃ t, v = .ref t ∧ SqT K H t ys) ∨ ∃ (d : Addr) (od : Obj) (kvs : List (Key × V)), v = .ref d ∧ H d = some (.frz od (.dK kvs)) ∧ ys = kvs.map fun kv => kV kv.1
/-- .. with its new iterator's object -/
def ItSrc (K : PySem.W.Frag) (H : Hp) (v : V) (ys : List V) (o : Obj) : Prop :=
  (∃ t, v = .ref t ∧ SqT K H t ys ∧ o = tupIt t) ∨ ∃ (d : Addr) (od : Obj) (kvs : List (Key × V)) (es : Array DictEntry) (ep : Nat), v = .ref d ∧ H d = some (.frz od (.dK kvs)) ∧ ys = (kvs.map fun kv => kV kv.1) ∧ od.data = .dict es ep ∧ o = keyIt d kvs.length ep
def exO (a : Addr) (o : Obj) : HO := .ext fun h => h.get? a = some o
theorem exO_ok {P : Program} {w : World} {H : Hp} {h : Heap} {a : Addr} {o : Obj} (e : h.get? a = some o) : ObjOk P w H h a (exO a o) := ⟨e, ⟨o, e⟩, fun h1 h2 p k => k _ p⟩
theorem ItSrc.grow {K : PySem.W.Frag} {H H' : Hp} {v : V} {ys : List V} {o : Obj} (h : ItSrc K H v ys o) (e : Grow H H') : ItSrc K H' v ys o := by
  rcases h with ⟨t, h1, h2, h3⟩ | ⟨d, od, kvs, es, ep, h1, h2, h3⟩
  · refine .inl ⟨t, h1, ?_, h3⟩
    rcases h2 with (h2 | ⟨o, h2⟩) | h2
    · exact .inl (.inl (e _ _ h2))
    · exact .inl (.inr ⟨o, e _ _ h2⟩)
    · exact .inr h2
  · exact .inr ⟨d, od, kvs, es, ep, h1, e _ _ h2, h3⟩
section
variable {prog : Program} {w : World} {A : Around} {E : Value → Shared → Prop} {s : Shared}
theorem call_iter1 {v : Value} {Q : Value → Shared → Prop} (h : wpAny (model prog w) A.in1 (pyIter v) Q E s) : wpAny (model prog w) A (call (.builtin "iter") [v]) Q E s := by
  refine Calls.call_function_entry (by decide +kernel) (by decide +kernel) PySem.W.kdk_entry_iter (PySem.W.kdk_args_iter _) ?_
  unfold Builtin.«iter»
  refine wpAny_bind (m := someArgs "iter" 1 2 _) (wpAny_of_eq (a := [v]) (by first | rfl | kernel_rfl!) ?_)
  show wpAny _ _ (pyIter v >>= _) _ _ _
  exact wpAny_bind (wpAny_mono h (fun u s' q => wpAny_pure ⟨_, rfl, q⟩) fun _ _ z => z)
end
section
variable {X : Cx} {pins : List (Addr × Obj)} {σ : L2.St} {H : Hp} {s : Shared}
theorem iter_src {A : Around} {EE : Value → Shared → Prop} {v : V} {u : Value} {ys : List V} {Q : Value → Shared → Prop} (I : Inv X pins σ H s) (rv : RelV v u) (h : SrcV X.K H v ys)
    (q : ∀ o, ItSrc X.K H v ys o → Inv X pins σ (upd H s.heap.objs.size (exO s.heap.objs.size o)) { s with heap := s.heap.push o } → Q (.ref s.heap.objs.size) { s with heap := s.heap.push o }) :
    wpAny (model X.prog X.w) A (pyIter u) Q EE s := by
  have go : ∀ o, o.cls ≠ .none → ItSrc X.K H v ys o → Q (.ref s.heap.objs.size) { s with heap := s.heap.push o } := fun o hc hs =>
    q o hs (I.laid (t' := s.toks) (fun b u e => Heap.get?_push_of_some _ e) (Nat.le_refl _) (exO_ok (Heap.get?_push_size _ (by
      first
        | rfl
        | (rcases hs with ⟨t, _, _, rfl⟩ | ⟨d, od, kvs, es, ep, _, _, _, _, rfl⟩ <;> rfl)))))
  rcases h with ⟨t, rfl, ht⟩ | ⟨d, od, kvs, rfl, hd, ey⟩
  · obtain rfl : u = Value.ref t := rv
    obtain ⟨its, rvs, pl, hz⟩ := I.tuple ht
    exact iter_tuple pl (go (tupIt t) (by unfold tupIt; simp) (.inl ⟨t, rfl, ht, rfl⟩))
  · obtain rfl : u = Value.ref d := rv
    obtain ⟨hg, hl, lo, vs, rel, o, es, ep, ho, r⟩ := (show s.heap.get? d = some od ∧ ObjOk X.prog X.w H s.heap d (.dK kvs) from I.hok d _ hd)
    rw [hg] at ho
    cases ho
    have at_ : s.heap.DictAt (mixKind X.prog X.w) d vs ep := ⟨od, es, hg, r⟩
    refine wpAny_pyIter_dict lo at_ ?_
    have e : vs.length = kvs.length := rel.length.symm
    rw [e]
    exact go (keyIt d kvs.length ep) (by unfold keyIt; simp) (.inr ⟨d, od, kvs, es, ep, rfl, hd, ey, r.2.1, rfl⟩)
/-- the walk of such an iterator -/
theorem walk_src {A : Around} {v : V} {ys : List V} {it : Addr} {o : Obj} (hh : A.handled = none) (I : Inv X pins σ H s) (hi : s.heap.get? it = some o) (h : ItSrc X.K H v ys o) :
    ∃ (c : Addr) (P : Nat → Value → Prop) (St : Nat → Shared → Prop), v = .ref c ∧ c ≠ it ∧ WalksS X.prog X.w A it [it, c] [it] (fun a b => b = a) ys.length P St ∧ St 0 s ∧ ys.length ≤ sizeLine ∧ (∀ acc : Array Value, ItemsOf P acc ys.length → Vals ys acc.toList) ∧ ∃ oc, s.heap.get? c = some oc ∧ oc.cls ≠ .type "list" := by
  rcases h with ⟨t, rfl, ht, rfl⟩ | ⟨d, od, kvs, es, ep, rfl, hd, rfl, hdat, rfl⟩
  · obtain ⟨its, rvs, pl, hz⟩ := I.tuple ht
    have ne : t ≠ it := fun z => by
      obtain ⟨ob, e1, e2, _⟩ := id pl
      rw [z, hi] at e1
      cases e1
      exact absurd e2 (show ¬ Value.type "tuple_iterator" = Value.type "tuple" by decide)
    have W := (Walks.tuple (prog := X.prog) (w := X.w) hh it t ne its.toArray).toS
    have hl : ys.length = its.toArray.size := by rw [List.size_toArray, rvs.length]
    rw [← hl] at W
    refine ⟨t, _, _, rfl, ne, W, ⟨⟨_, hi, rfl, rfl⟩, pl⟩, hz, fun acc ha => ?_, ?_⟩
    rotate_left
    · obtain ⟨ob, e1, e2, _⟩ := id pl
      exact ⟨ob, e1, by rw [e2]; decide⟩
    refine vals_of_at (show ys.length = acc.toList.length from (Array.length_toList.trans ha.1).symm) fun j x u h1 h2 => ?_
    have g : its.toArray[j]? = some u := ha.2 j u (by rw [← Array.getElem?_toList]; exact h2)
    obtain ⟨w, hw, rw'⟩ := rvs.get h1
    have : its.toArray[j]? = some w := by simpa using hw
    rw [this] at g
    cases g
    exact rw'
  · obtain ⟨hg, hl, lo, vs, rel, o2, es2, ep2, ho, r⟩ := (show s.heap.get? d = some od ∧ ObjOk X.prog X.w H s.heap d (.dK kvs) from I.hok d _ hd)
    rw [hg] at ho
    cases ho
    have e1 := r.2.1
    rw [hdat] at e1
    cases e1
    have at_ : s.heap.DictAt (mixKind X.prog X.w) d vs ep := ⟨od, es, hg, r⟩
    have ne : d ≠ it := fun z => by
      rw [z, hi] at hg
      cases hg
      cases hdat
    have W := (Walks.dictKeys (prog := X.prog) (w := X.w) (knd := mixKind X.prog X.w) hh it d ne vs ep).toS
    have e : vs.length = kvs.length := rel.length.symm
    have e2 : vs.length = (kvs.map fun kv => kV kv.1).length := by rw [List.length_map]; exact e
    rw [e2] at W
    refine ⟨d, _, _, rfl, ne, W, ⟨⟨_, hi, rfl, by unfold keyIt; rw [← e2, e]; rfl⟩, at_⟩, by rw [List.length_map]; exact hl, fun acc ha => ?_, od, hg, ?_⟩
    rotate_left
    · rw [r.1.1]; decide
    refine keys_vals rel (by rw [Array.length_toList, ha.1, e2]) fun j u hj => ?_
    exact ha.2 j u (by rw [← Array.getElem?_toList]; exact hj)
end
/-! ### __iter__ -/
/-- what such a def promises: the iterator is new -/
def FnI (P : Program) (w : World) (K : PySem.W.Frag) (mg : Str → Option Value) (base : Heap) (k : Nat) (g C : Addr) (f : Str) : Prop :=
  ∀ (A : Around) (outer : List Env) (s : Shared) (H : Hp) (a dx : Addr) (fs : List (Str × V)) (v : V) (ys : List V) (Q : VK), GdOk A base → Room k A → Env0 P w K mg base A outer s H → H a = some (.ins C dx fs) → fs.lookup f = some v → SrcV K H v ys →
    (∀ it o, ItSrc K H v ys o → H it = none → s.heap.objs.size ≤ it → Q (.ref it) (upd H it (exO it o))) → codeAny (model P w) A (.call (.ref g) ⟨[.ref a], []⟩) (CR (L2.CX P w) outer P w H s Q fun _ _ _ => False) s
def rIterX (K : PySem.W.Frag) (n : Nat) : List V → Hp → VK → Prop := fun xs H Q => ∃ v ys, xs = [v] ∧ SrcV K H v ys ∧ ∀ it o, ItSrc K H v ys o → H it = none → n ≤ it → Q (.ref it) (upd H it (exO it o))
theorem call_iterX {X : Cx} : CallR X (.builtin "iter") (rIterX X.K X.s_0.heap.objs.size) := by
  intro pins s σ H xs us Q I r ⟨v, ys, e, hv, q⟩
  subst e
  obtain ⟨u, rfl, ru⟩ := vals1 r
  refine call_iter1 (iter_src I ru hv fun o ho I1 => ?_)
  exact ⟨.ref s.heap.objs.size, _, I1, rfl, q _ o ho (I.hok.fresh (Nat.le_refl _)) I.sz⟩
section
variable {P : Program} {w : World} {K : PySem.W.Frag} {mg : Str → Option Value} {base : Heap}
theorem fnI_of {x qual f : Str} {st : Stmt} {g : Addr} {fd : FuncData} {N : List Str} {k : Nat} {y : Str} {p1 p2 p3 p4 p5 : Pos} {C : Addr} (F : Fun K x qual st g fd) (S : FnScope N [y] (defScope st)) (hb : Binds K fd [y] [])
    (hst : defBody st = [.Return (some (.Call (.Name "iter" p1) [.Attribute (.Name y p2) f p3] [] p4)) p5])
    (hex : ∀ (cdv : Value) (A : Around) (outer : List Env) (s : Shared) (H : Hp), PE (cxOf (L2.CX P w) P w K mg base N qual (defScope st) g cdv A outer s H fun _ _ _ => False) (.Call (.Name "iter" p1) [.Attribute (.Name y p2) f p3] [] p4) (fun σ H Q => ∃ a dx fs v, σ[0]? = some (some (.ref a)) ∧ H a = some (.ins C dx fs) ∧ fs.lookup f = some v ∧ rIterX K s.heap.objs.size [v] H Q)) : FnI P w K mg base (k + 1) g C f := by
  obtain ⟨oc, od, kV, doc, pm, an, cdv, ct, osl, rfl, lk, hcd⟩ := F.ex
  intro A outer s H a dx fs v ys Q hG hr e0 ha hl hv q
  have KX : K.In s.heap := e0.mod.kin.keeps fun b o e => (e0.bs b o e).1
  have r : Vals [V.ref a] [Value.ref a] := .cons rfl .nil
  have lim : s.heap.NoLimit := e0.mod.nolimit.keeps fun b o e => (e0.bs b o e).1
  refine codeAny_call_function hr.depth (KX _ _ lk) rfl S.co S.gen rfl (PySem.W.codeRec_of KX hcd) ((by simpa using hb s [.ref a] KX rfl : BindsTo s _ ⟨[.ref a], []⟩ ([y].zip [.ref a])) _ _ _ _ ?_)
  refine wpAny_newFunctionEnv_cells S.kind (fun ⟨n, v⟩ hy => ?_) fun env he s1 x => ?_
  · rcases S.par n (List.of_mem_zip hy).1 with q | q
    · exact .inl q
    · exact .inr ⟨q, PySem.W.cellsFrom_some _ _ _ (.inl q)⟩
  subst he
  refine ⟨lim.keeps x.toInCall.keep, codeAny_func ?_⟩
  have I : Inv (cxOf (L2.CX P w) P w K mg base N qual (defScope st) g cdv A outer s H fun _ _ _ => False) [] (L2.start N [.ref a]) H s1 := inv_start S hr.hd e0 rfl r x
  have hN : (L2.start N [V.ref a])[0]? = some (some (.ref a)) := rfl
  have B := pss_one (ps_ret (pos := p5) (hex cdv A outer s H))
  rw [hst]
  refine wpAny_mono (B.run [] s1 _ H { nx := fun _ H' => Q .non H', rt := Q } I ⟨a, dx, fs, v, hN, ha, hl, v, ys, rfl, hv, q⟩) (fun fl s' hs => ?_) fun e s' hs => hs
  cases fl with
  | ret u =>
    obtain ⟨v, σ', H', J, rv, q⟩ := hs
    exact ⟨v, H', J.os, J.bare, J.base, J.hok, rv, q⟩
  | next =>
    obtain ⟨σ', H', J, q⟩ := hs
    exact ⟨V.non, H', J.os, J.bare, J.base, J.hok, rfl, q⟩
  | brk =>
    obtain ⟨_, _, _, q⟩ := hs
    exact q.elim
  | cont =>
    obtain ⟨_, _, _, q⟩ := hs
    exact q.elim
end
/-! ### list(o) -/
structure IterO (K : PySem.W.Frag) (C g : Addr) : Prop where
  fn : PySem.W.isFn K (.ref g) = true
  at_ : PySem.W.findIn K (.ref C) "__iter__" = some (some (.ref g))
section
variable {X : Cx} {pins : List (Addr × Obj)} {σ : L2.St} {H : Hp} {s : Shared}
/-- the iterator of o -/
theorem iter_own {A : Around} {C gi a dx : Addr} {ki : Nat} {f : Str} {fs : List (Str × V)} {v : V} {ys : List V} {EE : Value → Shared → Prop} {Q : Value → Shared → Prop} (T : IterO X.K C gi) (F : FnI X.prog X.w X.K X.mg X.base ki gi C f) (hG : GdOk A X.base) (hr : Room ki A)
    (e0 : Env0 X.prog X.w X.K X.mg X.base A X.stack s H) (I : Inv X pins σ H s) (ha : H a = some (.ins C dx fs)) (hl : fs.lookup f = some v) (hv : SrcV X.K H v ys)
    (q : ∀ it o s', ItSrc X.K H v ys o → H it = none → X.s_0.heap.objs.size ≤ it → Inv X pins σ (upd H it (exO it o)) s' → Q (.ref it) s') : wpAny (model X.prog X.w) A (pyIter (.ref a)) Q EE s := by
  obtain ⟨mA, O, _, _, _, _⟩ := ins_get I.hok ha
  obtain ⟨od, J, _⟩ := O.look
  obtain ⟨mm, hF⟩ := I.fr
  refine PySem.W.owit_iter hF I.ok.mod.kin J T.at_ T.fn ?_
  refine wpAny_call (codeAny_mono (F A X.stack s H a dx fs v ys (fun x H' => ∃ it o, x = .ref it ∧ ItSrc X.K H v ys o ∧ H it = none ∧ s.heap.objs.size ≤ it ∧ H' = upd H it (exO it o)) hG hr e0 ha hl hv fun it o h1 h2 h3 => ⟨it, o, rfl, h1, h2, h3, rfl⟩) fun r s2 hq => ?_)
  cases r with
  | error er => exact (CR_none (fun _ _ _ z => z) hq).elim
  | ok fl =>
    cases fl with
    | next => exact False.elim hq
    | brk => exact False.elim hq
    | cont => exact False.elim hq
    | ret u =>
      obtain ⟨x, H', I3, rv, it, o, ex, hs, hn, hz, eH⟩ := I.after hq
      subst ex eH
      obtain rfl : u = Value.ref it := rv
      have fin := q it o s2 hs hn (Nat.le_trans I.sz hz) I3
      have at_ : s2.heap.get? it = some o := (I3.hok it _ upd_same).1
      unfold PySem.W.OwitIt
      rcases hs with ⟨t, _, _, rfl⟩ | ⟨d, od, kvs, es, ep, _, _, _, _, rfl⟩
      · exact wpAny_specialOf (T := "tuple_iterator") ⟨_, at_, rfl⟩ slot_tupleiter_next.lookup fin
      · exact wpAny_specialOf (T := "dict_keyiterator") ⟨_, at_, rfl⟩ PySem.F.slot_dict_keyiterator_next.lookup fin
/-- how long it says that it is -/
theorem hint_own {A : Around} {C g a dx : Addr} {k : Nat} {m : FM} {fs : List (Str × V)} {EE : Value → Shared → Prop} {Q : Bool → Shared → Prop} (T : LenO X.K C g) (F : FnD X.prog X.w X.K X.mg X.base k g m) (hG : GdOk A.in1 X.base) (hr : Room k A.in1)
    (e0 : Env0 X.prog X.w X.K X.mg X.base A.in1 X.stack s H) (I : Inv X pins σ H s) (ha : H a = some (.ins C dx fs)) (sp : spD X.K m [.ref a] H (fun v H' => ∃ i : Int, v = .int i ∧ 0 ≤ i ∧ i < 2 ^ 24 ∧ Same H H') (fun _ _ _ => False))
    (q : ∀ b H' s', Same H H' → Inv X pins σ H' s' → Q b s') : wpAny (model X.prog X.w) A (Builtin.List.listLengthHint (.ref a)) Q EE s := by
  obtain ⟨mA, O, _, _, _, _⟩ := ins_get I.hok ha
  obtain ⟨od, J, _⟩ := O.look
  obtain ⟨mm, hF⟩ := I.fr
  unfold Builtin.List.listLengthHint
  refine wpAny_bind (wpAny_bind (J.type.here ((PySem.W.looks_findIn I.kIn T.at_).here ?_)))
  refine PySem.W.KFB.if_not rfl ?_
  show wpAny _ _ (rule "list.length-hint.len" >>= _) _ _ _
  refine wpAny_bind (wpAny_rule ?_)
  refine wpAny_bind (wpAny_attempt ?_)
  refine PySem.W.len_K hF I.ok.mod.kin J T.at_ T.fn (run_own F hG hr e0 I (vs := [V.ref a]) (.cons rfl .nil) sp fun v u H' s' I' rv ⟨i, ev, i0, i1, q'⟩ => ?_)
  subst ev
  obtain ⟨t, rfl⟩ := rv
  refine ⟨⟨i0, by omega⟩, ?_⟩
  have nl : Builtin.List.listTooLong i.toNat = false := notLongL (by rw [sizeLine_eq]; omega)
  show wpAny _ _ (asInt? (Value.int i _) >>= _) _ _ _
  refine wpAny_bind (wpAny_pure ?_)
  show wpAny _ _ (if Builtin.List.listTooLong i.toNat = true then _ else _) _ _ _
  rw [if_neg (by rw [nl]; decide)]
  exact wpAny_pure (q _ _ _ q' (I'.tok _))
end
end DL
set_option Elab.async false
set_option linter.all false
set_option maxRecDepth 100000
set_option maxHeartbeats 4000000
/-! DL103: list(o) of a class whose __iter__ gives iter(self.f). -/
namespace DL
open PySem PySem.Spec PyProof.Rows L2
variable [TabsC]
section
variable {X : Cx} {pins : List (Addr × Obj)} {σ : L2.St} {H : Hp} {s : Shared}
/-- the list at q is filled, then the iterator is forgotten -/
theorem fill_src {v : V} {ys : List V} {o : Obj} {it q : Addr} {H0 : Hp} {Rs : Result → Shared → Prop} (hh : X.A.handled = none) (I : Inv X pins σ H s) (hit : H it = some (exO it o)) (hs : ItSrc X.K H v ys o) (hq : H q = some (.lst [])) (s0 : Same H0 H) (n1 : H0 it = none) (n2 : H0 q = none) (hz : X.s_0.heap.objs.size ≤ it)
    (hdone : ∀ H' s', Inv X pins σ H' s' → Same H0 H' → H' q = some (.lst ys) → Rs (.ok (.ret .none)) s') : codeAny (model X.prog X.w) X.A.in1 (.builtin "list.extend.loop" ⟨[.ref q, .ref it, .none], []⟩) Rs s := by
  have at_ : s.heap.get? it = some o := (I.hok it _ hit).1
  obtain ⟨c, P, St, ev, ne, W, st, hl, hv, oc, hoc, hcl⟩ := walk_src (A := X.A.in1.in1) hh I at_ hs
  obtain ⟨z, its, k, r, hl0, e⟩ := I.lstM hq
  cases r
  have nqi : q ≠ it := fun z => by rw [z, hit] at hq; cases hq
  have nqc : q ≠ c := fun z => by
    rw [← z, e] at hoc
    cases hoc
    exact hcl rfl
  have ncode : ∀ x, H it ≠ some (LamX.CodeO it x) := fun x z => by
    obtain ⟨⟨oc, vs, t, e1, e2, e3⟩, _, _⟩ := I.hok it _ z
    rw [at_] at e1
    cases e1
    rcases hs with ⟨t, _, _, rfl⟩ | ⟨d, od, kvs, es, ep, _, _, _, _, rfl⟩
    · cases e2; cases e3
    · cases e2; cases e3
  have fp := ItX.inv_fp I hit hz
  have I' : Inv X pins σ (ItX.dropH H it) s := ItX.inv_drop I hit
  refine codeAny_extend_loopS W hl q (by simp [nqi, nqc]) .none ys.length 0 s #[] k (by omega) (Nat.zero_le _) st e (ItemsOf.nil _) fun s' acc' c' m hS ha => ?_
  have vs := hv acc' ha
  have hlen : ys.length ≤ sizeLine := hl
  let o' : Obj := { cls := .type "list", dict := none, data := .seq acc' c', slots := #[] }
  have e' : (s.heap.update q fun _ => o').get? q = some o' := Heap.get?_update_self (fun _ => o') e rfl
  have hq' : ItX.dropH H it q = some (.lst []) := by rw [ItX.dropH_ne nqi]; exact hq
  have I7 : Inv X pins σ (upd (ItX.dropH H it) q (.lst ys)) { s with heap := s.heap.update q fun _ => o', toks := s'.toks } :=
    I'.write (x := q) (e := q) (t' := s'.toks) (by rw [hq']; trivial) (.inl rfl) (fun b u hb hu => (Heap.get?_update_other s.heap (fun _ => o') (Ne.symm hb)).trans hu) ⟨_, e'⟩ ⟨hlen, acc'.toList, c', vs, by rw [Array.toArray_toList]; exact e'⟩
  have I8 : Inv X pins σ (upd (ItX.dropH H it) q (.lst ys)) { s with heap := s'.heap, toks := s'.toks } := by
    refine Inv.turnedL (s := { s with heap := s.heap.update q fun _ => o', toks := s'.toks }) (h' := s'.heap) (t' := s'.toks) (ch := [it]) I7 (fun b ob hb hu => ?_) fun b hb => ?_
    · have nb : b ≠ it := by simpa using hb
      by_cases hbq : b = q
      · rw [hbq] at hu ⊢
        have hu : (s.heap.update q fun _ => o').get? q = some ob := hu
        rw [e'] at hu
        cases hu
        exact hS
      · have hu : (s.heap.update q fun _ => o').get? b = some ob := hu
        rw [Heap.get?_update_other s.heap (fun _ => o') (Ne.symm hbq)] at hu
        exact m.heap b ob (by simp [hbq, nb]) hu
    · rw [List.mem_singleton.mp hb]
      exact ⟨by rw [upd_ne (Ne.symm nqi)]; exact fp.1, fp.2⟩
  have es : s' = { s with heap := s'.heap, toks := s'.toks } := by
    obtain ⟨h5, g5, d5, t5, os5⟩ := s'
    have a1 : g5 = s.gens := m.gens
    have a2 : d5 = s.drawn := m.drawn
    have a3 : os5 = s.os := m.os
    subst a1 a2 a3
    rfl
  have atb : ∀ b, b ≠ it → b ≠ q → upd (ItX.dropH H it) q (.lst ys) b = H b := fun b h1 h2 => by rw [upd_ne h2, ItX.dropH_ne h1]
  rw [es]
  refine hdone _ _ I8 ⟨⟨fun b ob hb hn => ?_⟩, fun t p hp => ?_, fun b hb => ?_⟩ upd_same
  · rw [atb b (ne_of_none hb n1) (ne_of_none hb n2)]
    exact s0 _ _ hb hn
  · obtain ⟨ps, p1, p2, p3⟩ := s0.tb t p hp
    refine ⟨ps, ?_, p2, fun po cv hcv => ?_⟩
    · rw [atb p.1 (fun z => by rw [z, hit] at p1; cases p1) (fun z => by rw [z, hq] at p1; cases p1)]
      exact p1
    · obtain ⟨c2, c3, c4⟩ := p3 po cv hcv
      refine ⟨c2, c3, ?_⟩
      rw [atb c2 (fun z => ncode p.2 (by rw [← z]; exact c4)) (fun z => by rw [z, hq] at c4; cases c4)]
      exact c4
  · by_cases hbi : b = it
    · rw [hbi]; exact n1
    · by_cases hbq : b = q
      · rw [hbq]; exact n2
      · rw [atb b hbi hbq] at hb
        exact s0.free hb
end
def rListO (K : PySem.W.Frag) (C : Addr) (f : Str) (mL : FM) : List V → Hp → VK → Prop := fun xs H Q => ∃ a dx fs v ys, xs = [V.ref a] ∧ H a = some (.ins C dx fs) ∧ fs.lookup f = some v ∧ SrcV K H v ys ∧
  (∀ H', Same H H' → spD K mL [.ref a] H' (fun u H2 => ∃ i : Int, u = .int i ∧ 0 ≤ i ∧ i < 2 ^ 24 ∧ Same H' H2) fun _ _ _ => False) ∧ ∀ q H', H q = none → Same H H' → H' q = some (.lst ys) → Q (.ref q) H'
theorem SrcV.grow {K : PySem.W.Frag} {H H' : Hp} {v : V} {ys : List V} (h : SrcV K H v ys) (e : Grow H H') : SrcV K H' v ys := by
  rcases h with ⟨t, h1, h2⟩ | ⟨d, od, kvs, h1, h2, h3⟩
  · refine .inl ⟨t, h1, ?_⟩
    rcases h2 with (h2 | ⟨o, h2⟩) | h2
    · exact .inl (.inl (e _ _ h2))
    · exact .inl (.inr ⟨o, e _ _ h2⟩)
    · exact .inr h2
  · exact .inr ⟨d, od, kvs, h1, e _ _ h2, h3⟩
theorem call_listO {X : Cx} {C gi gl : Addr} {ki kl : Nat} {f : Str} {mL : FM} (hc : X.calm = true) (T : IterO X.K C gi) (F : FnI X.prog X.w X.K X.mg X.base ki gi C f) (TL : LenO X.K C gl) (FL : FnD X.prog X.w X.K X.mg X.base kl gl mL) (hG : GdOk X.A X.base) (hri : Room (ki + 2) X.A) (hrl : Room (kl + 3) X.A) :
    CallR X (.type "list") (rListO X.K C f mL) := by
  intro pins s σ H xs us Q I r ⟨a, dx, fs, v, ys, ex, ha, hl, hv, hm, hq⟩
  subst ex
  obtain ⟨u, rfl, ru⟩ := vals1 r
  obtain rfl : u = Value.ref a := ru
  refine callType_codes (Q₁ := fun obj s₁ => obj = .ref s.heap.objs.size ∧ s₁ = { s with heap := s.heap.push { cls := .type "list", data := .seq #[] } }) PySem.F.called_list (PySem.F.typeCall_list_1 _) PySem.F.entry_list_init
    (code_list_new _ ⟨rfl, rfl⟩) fun obj s₁ h₁ => ?_
  obtain ⟨rfl, rfl⟩ := h₁
  have hS : (s.heap.push { cls := .type "list", data := .seq #[] }).get? s.heap.objs.size = some { cls := .type "list", data := .seq #[] } := Heap.get?_push_size _ rfl
  refine ⟨⟨_, hS, rfl⟩, PySem.F.args_list_init_2 _ _, ?_⟩
  have fr : H s.heap.objs.size = none := I.hok.fresh (Nat.le_refl _)
  have I1 : Inv X pins σ (upd H s.heap.objs.size (.lst [])) { s with heap := s.heap.push { cls := .type "list", data := .seq #[] } } := I.lnew (its := []) (t' := s.toks) .nil (Nat.zero_le _)
  show wpAny _ _ (do let old ← Builtin.List.listItems (.ref s.heap.objs.size); Builtin.List.listUpdate (.ref s.heap.objs.size) (fun _ => #[]); letGo old.toList.reverse; Builtin.List.listExtendWith (.ref s.heap.objs.size) (.ref a) .none) _ _ _
  refine wpAny_bind ?_
  unfold Builtin.List.listItems
  refine wpAny_bind (wpAny_seqItems hS rfl (wpAny_pure ?_))
  show wpAny _ _ (updateSeq s.heap.objs.size (fun _ => #[]) >>= fun _ => letGo (#[] : Array Value).toList.reverse >>= fun _ => Builtin.List.listExtendWith (.ref s.heap.objs.size) (.ref a) .none) _ _ _
  refine wpAny_bind (wpAny_updateSeq hS rfl ?_)
  have I2 := I1.lset (f := fun _ => #[]) (its := []) (its' := []) (ys := []) (t' := s.toks) upd_same hS rfl .nil (Nat.zero_le _)
  rw [upd_upd] at I2
  refine wpAny_bind (wpAny_letGo ?_)
  generalize hqn : s.heap.objs.size = q at *
  have s1 : Same H (upd H q (.lst [])) := same_upd fr
  have ha1 : upd H q (.lst []) a = some (.ins C dx fs) := s1 _ _ ha
  have hv1 := hv.grow s1.ob
  have hq1 : upd H q (.lst []) q = some (.lst []) := upd_same
  have spl := hm _ s1
  generalize hH1 : upd H q (.lst []) = H1 at *
  generalize ({ heap := Heap.update (Heap.push s.heap { cls := .type "list", data := .seq #[] }) q (Obj.mapSeq fun _ => #[]), gens := s.gens, drawn := s.drawn, toks := s.toks, os := s.os } : Shared) = s2 at *
  have hne : q ≠ a := fun z => by rw [z, ha] at fr; cases fr
  obtain ⟨mA, O, _, _, _, _⟩ := ins_get I2.hok ha1
  obtain ⟨od, J, _⟩ := O.look
  unfold Builtin.List.listExtendWith
  refine wpAny_bind (J.type.here ?_)
  have h1 : Builtin.List.listSameRef (.ref q) (.ref a) = false := by simp [Builtin.List.listSameRef, hne]
  have h2 : (Value.ref C == Value.type "list") = false := rfl
  have h3 : (Value.ref C == Value.type "tuple") = false := rfl
  simp only [h1, h2, h3, Bool.or_false, Bool.false_eq_true, if_false]
  refine wpAny_bind (iter_own (A := X.A.in1.in1) T F hG hri.in1.in1 I2.env0.in1.in1 I2 ha1 hl hv1 fun it o s3 hs hn hz I3 => ?_)
  have s3' : Same H1 (upd H1 it (exO it o)) := same_upd hn
  have n1 : H it = none := s1.free hn
  have spl3 := hm _ (s1.trans s3')
  refine wpAny_bind (wpAny_holding (hint_own (A := X.A.in1.in1) TL FL hG hrl.in1.in1.in1 I3.env0.in1.in1.in1 I3 (s3' _ _ ha1) spl3 fun b H4 s4 s34 I4 => ?_))
  have hit4 : H4 it = some (exO it o) := s34 _ _ upd_same
  have hq4 : H4 q = some (.lst []) := s34 _ _ (s3' _ _ hq1)
  have s04 : Same H H4 := (s1.trans s3').trans s34
  have src4 : ItSrc X.K H4 v ys o := hs.grow (s3'.trans s34).ob
  have hh : X.A.handled = none := I.ok.hd hc
  have done : ∀ s5, Inv X pins σ H4 s5 → codeAny (model X.prog X.w) X.A.in1 (.builtin "list.extend.loop" ⟨[.ref q, .ref it, .none], []⟩) (wants (fun r s₂ => r = .none ∧ EP X pins σ Q (.ref q) s₂) X.xe) s5 := fun s5 I5 =>
    fill_src hh I5 hit4 src4 hq4 s04 n1 fr hz fun H' s' I6 s06 hq6 => ⟨rfl, .ref q, H', I6, rfl, hq q H' fr s06 hq6⟩
  obtain ⟨z4, its4, k4, r4, hl4, e4⟩ := I4.lstM hq4
  cases r4
  refine wpAny_ite_split (fun _ => ?_) (fun _ => wpAny_pure ⟨plainId_quiet PySem.F.plain_extend_loop _, done s4 I4⟩)
  refine wpAny_bind (wpAny_rule ?_)
  refine wpAny_bind ?_
  show wpAny _ _ (updateSeq q (·.push .none) >>= fun _ => updateSeq q (·.pop)) _ _ _
  refine wpAny_bind (wpAny_updateSeq e4 rfl ?_)
  have I5 := I4.lset (f := (·.push Value.none)) (its' := [Value.none]) (ys := [.non]) (t' := s4.toks) hq4 e4 (by simp) (.cons rfl .nil) (by rw [List.length_singleton, sizeLine_eq]; decide)
  obtain ⟨z6, its6, k6, r6, hl6, e6⟩ := I5.lstM upd_same
  obtain ⟨u6, rfl, ru6⟩ := r6.one
  refine wpAny_updateSeq e6 rfl ?_ (by show 1 ≤ sizeLine; rw [sizeLine_eq]; decide) (by show 0 ≤ sizeLine + 1; exact Nat.zero_le _)
  refine wpAny_pure ⟨plainId_quiet PySem.F.plain_extend_loop _, done _ ?_⟩
  have I6 := I5.lset (f := (·.pop)) (its := [u6]) (its' := []) (ys := []) (t' := s4.toks) upd_same e6 (by rfl) .nil (Nat.zero_le _)
  rw [upd_upd] at I6
  have hH : upd H4 q (.lst []) = H4 := by
    funext b
    by_cases hb : b = q
    · rw [hb, upd_same, hq4]
    · rw [upd_ne hb]
  rw [hH] at I6
  exact I6
/-! ### over data -/
def srcD (w : D) (k : List D → Prop) : Prop := match w with
  | .tup ds => k ds
  | .dict kvs => k (kvs.map fun kv => keyD kv.1)
  | _ => False
theorem e_srcT (ds : List D) (k : List D → Prop) : srcD (.tup ds) k = k ds := rfl
theorem e_srcK (kvs : List (Key × D)) (k : List D → Prop) : srcD (.dict kvs) k = k (kvs.map fun kv => keyD kv.1) := rfl
def mListO (n f : Str) (mL : FM) (ma : TM) : TM := fun δ Q E => ma δ (fun a => ∃ fs : List (Str × D), a = .obj n fs ∧ ∃ w, fs.lookup f = some w ∧ mL [a] (fun r => ∃ i : Int, r = .int i ∧ 0 ≤ i ∧ i < 2 ^ 24) NoE ∧ srcD w fun ds => Q (.list ds)) E
theorem srcV_of {K : PySem.W.Frag} {H : Hp} {ls : List Addr} {v : V} {w : D} {k : List D → Prop} (r : Rep K (sub H ls) v w) (h : srcD w k) : ∃ ys ds, SrcV K H v ys ∧ Reps K (sub H ls) ys ds ∧ ys.length ≤ sizeLine ∧ k ds := by
  cases w with
  | tup ds =>
    cases r with
    | tup h1 h2 h3 =>
      refine ⟨_, ds, .inl ⟨_, rfl, ?_⟩, h3, h2, h⟩
      rcases h1 with (h1 | ⟨o, h1⟩) | h1
      · exact .inl (.inl (sub_le _ _ h1))
      · exact .inl (.inr ⟨o, sub_le _ _ h1⟩)
      · exact .inr h1
  | dict kvs =>
    cases r with
    | dict h1 h2 h3 => exact ⟨_, _, .inr ⟨_, _, _, rfl, sub_le _ _ h1, rfl⟩, h3.keysR, by rw [List.length_map]; exact h2, h⟩
  | _ => exact False.elim h
section
variable {X : Cx} {W : WX} {a : Expr} {ma : TM} {n f : Str} {C gi gl : Addr} {ki kl : Nat} {mL : FM} {p pos : Pos}
theorem df_listO (hC : PySem.W.nsIn X.K mainGlobals n = some (some (.ref C))) (hc : X.calm = true) (T : IterO X.K C gi) (F : FnI X.prog X.w X.K X.mg X.base ki gi C f) (TL : LenO X.K C gl) (FL : FnD X.prog X.w X.K X.mg X.base kl gl mL) (hG : GdOk X.A X.base) (hri : Room (ki + 2) X.A) (hrl : Room (kl + 3) X.A)
    (hg : Gl X "list") (hm : X.mg "list" = none) (ha : DE X W a false ma)
    (hs : starEach [a] X.env = (false, eval a X.env) :: starEach [] X.env := by rfl) (hpl : (backTo pos (starEach [] X.env)).any (·.1) = false := by rfl) : DF X W (.Call (.Name "list" p) [a] [] pos) (mListO n f mL ma) :=
  PE.imp (pe_callTy (call_listO hc T F TL FL hG hri hrl) hg hm bt_list (pa_cons ha pa_nil hs) (by decide) (by decide) hs hpl) fun σ H Q ⟨F', own, δ, P, EK, A, mm, q⟩ => ⟨F', own, δ, _, EK, A, mm, fun d v H1 ⟨fs, ed, w, hw, ml, hsrc⟩ s1 r1 => by
    subst ed
    have A1 := A.on s1
    obtain ⟨C', b, dx, vs, hC', rfl, h1, h2⟩ := r1.obj
    rw [hC] at hC'
    cases hC'
    obtain ⟨u, hu, ru⟩ := h2.get hw
    obtain ⟨ys, ds, sv, rs, hz, pd⟩ := srcV_of ru hsrc
    refine ⟨b, dx, vs, u, ys, rfl, h1, hu, sv, fun H2 s2 => ?_, fun q' H3 hn s3 hq => ?_⟩
    · have A2 := A1.on s2
      exact ⟨F'.ls0 ++ own, [.obj n fs], _, NoE, A2.env.trk, A2.tabs, .cons (r1.clean.mono (sub_same s2.ob)) .nil, ml, fun d v H' ⟨i, ed, i0, i1⟩ s3 r3 => by
        subst ed
        cases r3
        exact ⟨i, rfl, i0, i1, s3⟩, fun _ _ _ _ z => z.elim⟩
    · exact q _ _ _ pd (s1.free hn) (s1.trans s3) (.l hq hz (rs.mono (sub_fresh hn s3)))⟩
end
end DL
set_option Elab.async false
set_option linter.all false
set_option maxRecDepth 100000
set_option maxHeartbeats 4000000
/-! DL104: a def that gives a new container of its own: x = o.f, x written behind it. -/
namespace DL
open PySem PySem.Spec PyProof.Rows L2
variable [TabsC]
def spF (K : PySem.W.Frag) (m : FM) : Sp := fun vs H Q E => ∃ (fo : List Addr) (ds : List D) (P : D → Prop) (EK : Er → Prop), (∀ l, l ∈ fo → ∃ o, H l = some o ∧ Plain o) ∧ LamX.Tabs TabsC.T H ∧ Reps K (sub H fo) vs ds ∧ m ds P EK ∧
  (∀ d p H', P d → H p = none → Same H H' → FV K (p :: fo) H' p d → Q (.ref p) H') ∧ (∀ er cls dd H', EK er → Same H H' → RepEr K fo H' cls dd er → E cls dd H')
abbrev FnF (P : Program) (w : World) (K : PySem.W.Frag) (mg : Str → Option Value) (base : Heap) (k : Nat) (f : Addr) (m : FM) : Prop := FnP P w K mg base k f (spF K m)
theorem FnF.imp {P : Program} {w : World} {K : PySem.W.Frag} {mg : Str → Option Value} {base : Heap} {k : Nat} {f : Addr} {m m' : FM} (F : FnF P w K mg base k f m) (h : ∀ ds Q E, m' ds Q E → m ds Q E) : FnF P w K mg base k f m' :=
  fun A outer s H us vs Q E hG hr e r ⟨fo, ds, P, EK, t, tb, rs, m, q⟩ => F A outer s H us vs Q E hG hr e r ⟨fo, ds, P, EK, t, tb, rs, h _ _ _ m, q⟩
end DL
set_option Elab.async false
set_option linter.all false
set_option maxRecDepth 100000
set_option maxHeartbeats 4000000
/-! DL105: a lot as it is told: text, lines. -/
namespace DL
open PySem PySem.Spec PyProof.Rows L2
section
variable [TabsC]
def decS (n : Int) : Str := Str.ofString (toString n)
def lineS (a b : Str) (p : Int × Int) : Str := a ++ decS p.1 ++ b ++ decS p.2
theorem decS_le {n : Int} (h0 : 0 ≤ n) (h1 : n < 10 ^ 240) : (decS n).length ≤ 240 := (len_dec_le h0 (by decide)).mpr h1
theorem e_emp (x : Str) : Str.empty ++ x = x := by
  cases x with
  | mk a => exact congrArg Str.mk (Array.empty_append)
/-! ### texts that are shown -/
theorem char_lt (c : Char) : c.toNat < 0x110000 := by
  have := c.valid
  rcases this with h | h
  · show c.val.toNat < _
    have : c.val.toNat < 0xd800 := h
    omega
  · exact h.2
theorem hex_ok (w c : Nat) : ∀ d, d ∈ List.replicate (w - ((Nat.toDigits 16 c).map Char.toNat).length) 48 ++ (Nat.toDigits 16 c).map Char.toNat → d < 0x110000 := fun d hd => by
  rcases List.mem_append.mp hd with h | h
  · rw [List.eq_of_mem_replicate h]; decide
  · obtain ⟨e, _, rfl⟩ := List.mem_map.mp h
    exact char_lt e
theorem reprChar_ok {q c : Nat} (hc : c < 0x110000) : ∀ d, d ∈ Builtin.Str.reprChar q c → d < 0x110000 := by
  have h2 := hex_ok 2 c
  have h4 := hex_ok 4 c
  have h8 := hex_ok 8 c
  unfold Builtin.Str.reprChar
  dsimp only
  intro d hd
  repeat' split at hd
  all_goals simp only [List.mem_cons, List.not_mem_nil, or_false, List.cons_append, List.nil_append] at hd
  · rcases hd with rfl | rfl <;> omega
  · rcases hd with rfl | rfl <;> decide
  · rcases hd with rfl | rfl <;> decide
  · rcases hd with rfl | rfl <;> decide
  · omega
  · rcases hd with rfl | rfl | h
    · decide
    · decide
    · exact h2 d h
  · rcases hd with rfl | rfl | h
    · decide
    · decide
    · exact h4 d h
  · rcases hd with rfl | rfl | h
    · decide
    · decide
    · exact h8 d h
theorem fold_ok {q : Nat} : ∀ (l : List Nat) (acc : Array Nat), (∀ d, d ∈ acc.toList → d < 0x110000) → (∀ c, c ∈ l → c < 0x110000) → ∀ d, d ∈ (l.foldl (fun out c => out ++ (Builtin.Str.reprChar q c).toArray) acc).toList → d < 0x110000
  | [], acc, h, _ => h
  | c :: r, acc, h, hl => by
    rw [List.foldl_cons]
    refine fold_ok r _ (fun d hd => ?_) fun e he => hl e (List.mem_cons_of_mem _ he)
    rw [Array.toList_append] at hd
    rcases List.mem_append.mp hd with hd | hd
    · exact h d hd
    · exact reprChar_ok (hl c List.mem_cons_self) d (by simpa using hd)
theorem repr_ok {x : Str} (h : okS x) : okS (reprText x) := by
  have hq : reprQuote x < 0x110000 := by
    unfold reprQuote
    split <;> decide
  refine okS_iff.mpr fun d hd => ?_
  unfold reprText at hd
  rw [Array.toList_push, ← Array.foldl_toList] at hd
  rcases List.mem_append.mp hd with hd | hd
  · exact fold_ok x.cps.toList #[reprQuote x] (fun e he => by
      have : e = reprQuote x := by simpa using he
      rw [this]; exact hq) (okS_iff.mp h) d hd
  · have : d = reprQuote x := by simpa using hd
    rw [this]; exact hq
theorem Sh_str {n : Nat} {x : Str} (h : okS x) (hl : x.length ≤ n) : Sh (10 * n + 2) 0 (.str x) :=
  ⟨rfl, rfl, Nat.zero_le _, Nat.le_trans (StrLaws.reprText_len x fun c hc => Nat.lt_of_lt_of_le (okS_iff.mp h c hc) (by decide)) (by omega), repr_ok h⟩
theorem decS_ok (n : Int) : okS (decS n) := okS_ofString _
theorem lit_ok (s : String) : okS (Str.ofString s) := okS_ofString s
theorem lineS_ok {a b : String} (p : Int × Int) : okS (lineS a b p) := okS_append (okS_append (okS_append (lit_ok _) (decS_ok _)) (lit_ok _)) (decS_ok _)
theorem lineS_le {a b : Str} {p : Int × Int} (h1 : 0 ≤ p.1) (h2 : p.1 < 10 ^ 240) (h3 : 0 ≤ p.2) (h4 : p.2 < 10 ^ 240) (ha : a.length ≤ 10) (hb : b.length ≤ 10) : (lineS a b p).length ≤ 500 := by
  have := decS_le h1 h2
  have := decS_le h3 h4
  unfold lineS
  rw [Str.length_append, Str.length_append, Str.length_append]
  omega
end
end DL
set_option Elab.async false
set_option linter.all false
set_option maxRecDepth 100000
set_option maxHeartbeats 4000000
/-! DL106: d.pop(k, e) of a dict that has no such key. -/
namespace DL
open PySem PySem.Spec PyProof.Rows L2
variable [TabsC]
section
variable {X : Cx} {W : WX} {o e e2 : Expr} {ba bb : Bool} {ma mk mc : TM} {apos pos cpos : Pos} {td ty tx : TE}
theorem d_popN {pins : List (Addr × Obj)} {σ : L2.St} {H : Hp} {s : Shared} {a : Addr} {kvs : List (Key × V)} {k : Key} {u r : Value} {A : Around} {E : Value → Shared → Prop} {Q : Value → Shared → Prop} (I : Inv X pins σ H s) (h0 : Rd H a (.dK kvs)) (ry : RelV (kV k) u) (l : valV kvs k = none) (h : ∀ s', Inv X pins σ H s' → Q r s') :
    wpAny (model X.prog X.w) A (call (.builtin "dict.pop") [.ref a, u, r]) Q E s := by
  obtain ⟨z, hd, vs, rel, dd⟩ := dk_rd I.hok h0
  have hn : valueAt vs k = none := RelO.none_of (by rw [← l]; exact rel.val k)
  have hp : (keyPart u).isSome = true := by
    cases k with
    | inl i => obtain ⟨t, q⟩ := (show ∃ t, u = Value.int i t from ry); subst q; rfl
    | inr x => obtain ⟨t, q⟩ := (show ∃ t, u = Value.str x t from ry); subst q; rfl
  exact call_meetsIn PySem.F.slot_dict_pop dd.typeIs PySem.F.entry_dict_pop (PySem.F.args_dict_pop_3 _ _ _) (meets_dict_pop_default (mixKind X.prog X.w) a (kV_is ry) hd hp r) ⟨vs, dd, hn, h _ (I.tok _)⟩
def tDPopN (td ty tx : TE) : TE := fun σ H Q => td σ H fun x H1 => ∃ a, x = .ref a ∧ IsD H1 a ∧ ty σ H1 fun y H2 => tx σ H2 fun z H3 => ∃ kvs key, Rd H3 a (.dK kvs) ∧ y = kV key ∧ valV kvs key = none ∧ Q z H3
theorem pe_dpopN (ho : PE X o td) (he : PE X e ty) (hf : PE X e2 tx) (m : M2 X o "pop" apos e e2 cpos) : PE X (.Call (.Attribute o "pop" apos) [e, e2] [] cpos) (tDPopN td ty tx) := by
  refine ⟨fun pins s σ H Q I h => ?_⟩
  refine wpAny_Call_method m.base m.few m.line PySem.F.plainAttrs_dict PySem.F.slot_dict_pop PySem.F.type_dict_pop (thn (ho.run pins s σ H _ I h) fun u s1 ⟨x, H1, I1, rx, a, ex, d, q1⟩ => ?_)
  subst ex
  obtain rfl : u = Value.ref a := rx
  obtain ⟨t1, t2, _⟩ := isD_at I1 d
  refine ⟨t1, t2, ?_⟩
  rw [m.trees]
  refine Calls.callWith_builtin rfl (Calls.evalArgs_plain (Calls.spliced_cons (thn (he.run pins s1 σ H1 _ I1 q1) fun iv s2 ⟨y, H2, I2, ry, q2⟩ =>
    Calls.spliced_cons (thn (hf.run pins s2 σ H2 _ I2 q2) fun fv s3 ⟨z, H3, I3, rz, kvs, k, ea, ey, l, q3⟩ => Calls.spliced_nil ?_))))
  subst ey
  exact d_popN I3 ea ry l fun s4 I4 => ⟨z, H3, I4, rz, q3⟩
def mDPopN (ma mk mv : TM) : TM := fun δ Q E => ma δ (fun d => ∃ ds : List (Key × D), d = .dict ds ∧ mk δ (fun kd => mv δ (fun v => ∃ key : Key, kd = keyD key ∧ valD ds key = none ∧ Q v) E) E) E
theorem de_dpopN (ho : DE X W o ba ma) (hi : DE X W e bb mk) (hv : DE X W e2 false mc) (m : M2 X o "pop" apos e e2 pos) : DE X W (.Call (.Attribute o "pop" apos) [e, e2] [] pos) false (mDPopN ma mk mc) :=
  PE.imp (pe_dpopN ho hi hv m) fun σ H Q ⟨F, own, δ, P, EK, A, mm, q⟩ => ⟨F, own, δ, _, EK, A, mm, fun d v H1 ⟨ds, ed, m1⟩ s1 r1 => by
    subst ed
    obtain ⟨a, kvs, rfl, h1, h2, h3⟩ := r1.dict
    refine ⟨a, rfl, .inl ⟨kvs, h1⟩, F, own, δ, _, EK, A.on s1, m1, fun kd kv H2 m2 s2 r2 => ⟨F, own, δ, _, EK, A.on (s1.trans s2), m2, fun vd vv H3 ⟨key, ek, hn, m3⟩ s3 r3 => ?_⟩⟩
    subst ek
    have ekv := kV_of r2
    subst ekv
    have h1' := rdMono (s2.trans s3).ob h1
    have h3' := h3.mono (sub_same (s2.trans s3).ob)
    exact ⟨kvs, key, h1', rfl, h3'.none key hn, q _ _ H3 m3 ((s1.trans s2).trans s3) r3⟩⟩
end
end DL
set_option Elab.async false
set_option linter.all false
set_option maxRecDepth 100000
set_option maxHeartbeats 4000000
/-! DL107: how many rooms of each, as a table; a store's text. -/
namespace DL
open PySem PySem.Spec PyProof.Rows L2
section
variable [TabsC]
def indI (k : Int) : Int → Int := fun r => if r = k then 1 else 0
theorem addT_cnt : ∀ {M L : Tab}, (keysT L).Nodup → (keysT (addT L M)).Nodup ∧ ∀ k, cntT (addT L M) k = cntT L k + sumR (indI k) M
  | [], L, hL => ⟨hL, fun k => by show cntT L k = cntT L k + 0; omega⟩
  | p :: r, L, hL => by
    obtain ⟨h1, h2⟩ := addT_cnt (M := r) (L := incT L p.1 p.2) (inc_nodup hL)
    refine ⟨h1, fun k => ?_⟩
    show cntT (addT (incT L p.1 p.2) r) k = _
    rw [h2 k, inc_at hL, sumR_cons]
    unfold indI
    by_cases c : k = p.1
    · rw [if_pos c, if_pos c.symm, Int.mul_one]; omega
    · rw [if_neg c, if_neg (Ne.symm c), Int.mul_zero]; omega
theorem addT_asc : ∀ {M L : Tab}, (keysT L).Pairwise (· < ·) → (∀ k, k ∈ keysT L → ∀ p, p ∈ M → k ≤ p.1) → M.Pairwise (fun p q => p.1 ≤ q.1) → (keysT (addT L M)).Pairwise (· < ·)
  | [], L, h, _, _ => h
  | p :: r, L, h, hk, hm => by
    obtain ⟨m1, m2⟩ := List.pairwise_cons.mp hm
    have hp := fun k hk' => hk k hk' p List.mem_cons_self
    refine addT_asc (M := r) (L := incT L p.1 p.2) ?_ (fun k hk' q hq => ?_) m2
    · unfold incT
      split
      · rw [inc_keys_map]; exact h
      · rename_i c
        unfold keysT
        rw [List.map_append]
        refine List.pairwise_append.mpr ⟨h, by simp, fun a ha b hb => ?_⟩
        have : b = p.1 := by simpa using hb
        rw [this]
        have := hp a ha
        have ne : a ≠ p.1 := fun e => c (e ▸ ha)
        omega
    · have : k ∈ keysT L ∨ k = p.1 := by
        unfold incT at hk'
        split at hk'
        · rw [inc_keys_map] at hk'; exact .inl hk'
        · unfold keysT at hk'
          rw [List.map_append] at hk'
          rcases List.mem_append.mp hk' with w | w
          · exact .inl w
          · exact .inr (by simpa using w)
      rcases this with w | w
      · exact hk k w q (List.mem_cons_of_mem _ hq)
      · rw [w]; exact m1 q hq
def roomsT (R : Runs) : Tab := addT [] (sortP R)
theorem lex_le {p q : Int × Int} (h : lexLe p q) : p.1 ≤ q.1 := by
  unfold lexLe at h
  omega
theorem rooms_nd (R : Runs) : (keysT (roomsT R)).Nodup := (addT_cnt (M := sortP R) (L := []) List.nodup_nil).1
theorem rooms_cnt (R : Runs) (k : Int) : cntT (roomsT R) k = sumR (indI k) R := by
  unfold roomsT
  rw [(addT_cnt (M := sortP R) (L := []) List.nodup_nil).2 k, sumR_perm _ (sortP_perm R)]
  show 0 + _ = _
  omega
theorem rooms_asc (R : Runs) : ascL (keysT (roomsT R)) = true := asc_pair (addT_asc (L := []) List.Pairwise.nil (fun k hk => by cases hk) ((sortP_pw R).imp lex_le))
theorem rooms_key : ∀ {M L : Tab} {k : Int}, k ∈ keysT (addT L M) ↔ k ∈ keysT L ∨ k ∈ keysT M
  | [], L, k => by
    show k ∈ keysT L ↔ k ∈ keysT L ∨ k ∈ []
    simp
  | p :: r, L, k => by
    show k ∈ keysT (addT (incT L p.1 p.2) r) ↔ _
    rw [rooms_key (M := r)]
    have : k ∈ keysT (incT L p.1 p.2) ↔ k ∈ keysT L ∨ k = p.1 := by
      unfold incT
      split
      · rename_i c
        rw [inc_keys_map]
        exact ⟨.inl, fun h => h.elim id fun e => e ▸ c⟩
      · unfold keysT
        rw [List.map_append, List.mem_append]
        simp
    rw [this]
    show _ ↔ k ∈ keysT L ∨ k ∈ p.1 :: keysT r
    rw [List.mem_cons]
    constructor
    · rintro ((h | h) | h)
      · exact .inl h
      · exact .inr (.inl h)
      · exact .inr (.inr h)
    · rintro (h | h | h)
      · exact .inl (.inl h)
      · exact .inl (.inr h)
      · exact .inr h
theorem roomsK_mem {R : Runs} {k : Int} : k ∈ keysT (roomsT R) ↔ ∃ p, p ∈ R ∧ p.1 = k := by
  unfold roomsT
  rw [rooms_key]
  unfold keysT
  rw [List.map_nil, List.mem_map]
  constructor
  · rintro (h | ⟨p, hp, e⟩)
    · cases h
    · exact ⟨p, (sortP_perm R).mem_iff.mp hp, e⟩
  · rintro ⟨p, hp, e⟩
    exact .inr ⟨p, (sortP_perm R).mem_iff.mpr hp, e⟩
theorem sumR_le0 {g : Int → Int} (hg : ∀ r, 0 ≤ g r) : ∀ {R : Runs}, (∀ p, p ∈ R → 0 ≤ p.2) → 0 ≤ sumR g R
  | [], _ => Int.le_refl 0
  | p :: r, h => by
    have ih := sumR_le0 hg (R := r) fun q hq => h q (List.mem_cons_of_mem _ hq)
    have := Int.mul_nonneg (h p List.mem_cons_self) (hg p.1)
    rw [sumR_cons]
    omega
theorem ind_nn (k r : Int) : 0 ≤ indI k r := by unfold indI; split <;> decide
theorem ind_pos {R : Runs} (h : ∀ p, p ∈ R → 1 ≤ p.2) {k : Int} (hk : ∃ p, p ∈ R ∧ p.1 = k) : 1 ≤ sumR (indI k) R := by
  obtain ⟨p, hp, e⟩ := hk
  induction R with
  | nil => cases hp
  | cons q r ih =>
    rw [sumR_cons]
    have nn := sumR_le0 (ind_nn k) (R := r) fun x hx => by have := h x (List.mem_cons_of_mem _ hx); omega
    have hq := h q List.mem_cons_self
    rcases List.mem_cons.mp hp with w | w
    · subst w
      have : indI k p.1 = 1 := by unfold indI; rw [if_pos e]
      rw [this]; omega
    · have := ih (fun x hx => h x (List.mem_cons_of_mem _ hx)) w
      have := Int.mul_nonneg (show 0 ≤ q.2 by omega) (ind_nn k q.1)
      omega
theorem rooms_pos {R : Runs} (h : ∀ p, p ∈ R → 1 ≤ p.2) : ∀ p, p ∈ roomsT R → 1 ≤ p.2 := fun p hp => by
  rw [← cntT_mem (rooms_nd R) hp, rooms_cnt]
  exact ind_pos h (roomsK_mem.mp (List.mem_map.mpr ⟨p, hp, rfl⟩))
theorem rooms_same {R S : Runs} (hR : ∀ p, p ∈ R → 1 ≤ p.2) (hS : ∀ p, p ∈ S → 1 ≤ p.2) (h : ∀ k, sumR (indI k) R = sumR (indI k) S) : roomsT R = roomsT S :=
  tab_same (rooms_asc R) (rooms_asc S) (rooms_pos hR) (rooms_pos hS) fun k => by rw [rooms_cnt, rooms_cnt, h k]
def strR (R : Runs) : Str := "store of " ++ decS (numT R) ++ " rooms, " ++ decS (R.length : Int) ++ " runs"
theorem strR_ok (L : Tab) : okS (strR L) := okS_append (okS_append (okS_append (okS_append (lit_ok _) (decS_ok _)) (lit_ok _)) (decS_ok _)) (lit_ok _)
end
end DL
set_option Elab.async false
set_option linter.all false
set_option maxRecDepth 100000
set_option maxHeartbeats 4000000
/-! DL108: runs whose neighbours differ; merging twice. -/
namespace DL
open PySem PySem.Spec PyProof.Rows L2
variable [TabsC]
def adjL (K : List Int) : Prop := ∀ l x y r, K = l ++ x :: y :: r → x ≠ y
theorem adj_nil : adjL [] := fun l x y r h => by cases l <;> simp at h
theorem adj_pre {K : List Int} {z : Int} (h : adjL (K ++ [z])) : adjL K := fun l x y r e => h l x y (r ++ [z]) (by rw [e]; simp)
theorem adj_end {K : List Int} {q p : Int} (h : adjL (K ++ [q] ++ [p])) : q ≠ p := h K q p [] (by simp)
theorem adj_one (p : Int) : adjL [p] := fun l x y r h => by
  have := congrArg List.length h
  simp at this
  omega
theorem adj_snoc {K : List Int} {q p : Int} (h : adjL (K ++ [q])) (n : q ≠ p) : adjL (K ++ [q] ++ [p]) := fun l x y r e => by
  rcases List.eq_nil_or_concat r with c | ⟨r', z, c⟩
  · subst c
    have e' : K ++ [q] ++ [p] = (l ++ [x]) ++ [y] := by rw [e]; simp
    have a := List.append_inj' e' rfl
    have b := List.append_inj' a.1 rfl
    have hq : q = x := by simpa using b.2
    have hp : p = y := by simpa using a.2
    rw [← hq, ← hp]
    exact n
  · rw [List.concat_eq_append] at c
    subst c
    have e' : K ++ [q] ++ [p] = (l ++ x :: y :: r') ++ [z] := by rw [e]; simp
    exact h l x y r' (List.append_inj' e' rfl).1
theorem snocR {P : Runs → Prop} (h0 : P []) (h1 : ∀ L p, P L → P (L ++ [p])) (L : Runs) : P L := by
  have : ∀ L : Runs, P L.reverse := fun L => by
    induction L with
    | nil => exact h0
    | cons p r ih => rw [List.reverse_cons]; exact h1 _ _ ih
  have := this L.reverse
  rwa [List.reverse_reverse] at this
theorem merge_adj (L : Runs) : adjL ((mergeT L).map (·.1)) := by
  refine snocR (P := fun L => adjL ((mergeT L).map (·.1))) adj_nil (fun L p ih => ?_) L
  rw [mergeT_snoc]
  rcases List.eq_nil_or_concat (mergeT L) with c | ⟨l, q, c⟩
  · rw [c]; exact adj_one p.1
  · rw [List.concat_eq_append] at c
    rw [c] at ih ⊢
    rw [List.map_append] at ih
    rw [mstep_end]
    by_cases e : q.1 = p.1
    · rw [if_pos e, List.map_append]
      simp only [List.map_cons, List.map_nil] at ih ⊢
      rw [← e]
      exact ih
    · rw [if_neg e, List.map_append, List.map_append]
      exact adj_snoc ih e
theorem adj_merge (L : Runs) : adjL (L.map (·.1)) → mergeT L = L := by
  refine snocR (P := fun L => adjL (L.map (·.1)) → mergeT L = L) (fun _ => rfl) (fun L p ih h => ?_) L
  rw [List.map_append] at h
  rw [mergeT_snoc, ih (adj_pre h)]
  rcases List.eq_nil_or_concat L with c | ⟨l, q, c⟩
  · rw [c]; rfl
  · rw [List.concat_eq_append] at c
    subst c
    rw [List.map_append] at h
    rw [mstep_end, if_neg (adj_end h)]
theorem merge_merge (L : Runs) : mergeT (mergeT L) = mergeT L := adj_merge _ (merge_adj L)
end DL
set_option Elab.async false
set_option linter.all false
set_option maxRecDepth 100000
set_option maxHeartbeats 4000000
namespace DL.Law
open DL
open PySem PySem.Spec PyProof.Rows L2
abbrev owns : List Str := ["Row", "Store"]
def top (i : Nat) : Stmt := PySem.Challenge.pw_chainpacks_k14_stores_told.main.body.getD i (.Pass ⟨0, 0, 0, 0⟩)
abbrev s_is_integer : Stmt := top 3
abbrev s_is_size : Stmt := top 4
abbrev s_is_run : Stmt := top 15
abbrev s_merged : Stmt := top 16
abbrev s_Store_init : Stmt := (inClass (top 20) 0)
abbrev s_Store_number : Stmt := (inClass (top 20) 4)
abbrev s_Store_str : Stmt := (inClass (top 20) 22)
abbrev s_Store_runs : Stmt := (inClass (top 20) 2)
abbrev s_Store_total : Stmt := (inClass (top 20) 5)
abbrev s_require_size : Stmt := top 12
abbrev s_space_in : Stmt := top 19
abbrev s_Store_units : Stmt := (inClass (top 20) 8)
abbrev s_law_dice : Stmt := top 23
abbrev s_Store_eq : Stmt := (inClass (top 20) 21)
abbrev s_Store_rooms : Stmt := (inClass (top 20) 7)
abbrev s_law_roll : Stmt := top 24
abbrev s_law_great : Stmt := top 26
abbrev s_law_pick : Stmt := top 25
abbrev s_law_great_store : Stmt := top 29
abbrev s_law_made_store : Stmt := top 31
abbrev s_law_merged : Stmt := top 30
abbrev s_law_small_store : Stmt := top 28
abbrev s_Store_contains : Stmt := (inClass (top 20) 18)
abbrev s_Store_iter : Stmt := (inClass (top 20) 20)
abbrev s_Store_len : Stmt := (inClass (top 20) 19)
abbrev s_Store_greatest : Stmt := (inClass (top 20) 6)
abbrev s_Store_lines : Stmt := (inClass (top 20) 3)
abbrev s_law_space : Stmt := top 32
abbrev s_law_told_right : Stmt := top 34
abbrev s_law_long_chain : Stmt := top 27
abbrev s_law_wild_sizes : Stmt := top 33
abbrev s_law_right : Stmt := top 35
abbrev s_law : Stmt := top 36
def fd0 : DL.FD := ⟨fun K => (He.ma K (He.ga K "InvalidNumber") "__init__"), "__init__", "InvalidNumber.__init__", (xA "value" ⟨19, 17, 19, 21⟩ ⟨19, 23, 19, 28⟩), (xB "value" ⟨20, 8, 20, 12⟩ ⟨20, 8, 20, 18⟩ ⟨20, 21, 20, 26⟩ ⟨20, 8, 20, 26⟩), (xS "value")⟩
def fd1 : DL.FD := ⟨fun K => (He.ga K "is_integer"), "is_integer", "is_integer", (defArgs s_is_integer), (defBody s_is_integer), (defScope s_is_integer)⟩
def fd2 : DL.FD := ⟨fun K => (He.ga K "is_size"), "is_size", "is_size", (defArgs s_is_size), (defBody s_is_size), (defScope s_is_size)⟩
def fd3 : DL.FD := ⟨fun K => (He.ga K "is_run"), "is_run", "is_run", (defArgs s_is_run), (defBody s_is_run), (defScope s_is_run)⟩
def fd4 : DL.FD := ⟨fun K => (He.ga K "merged"), "merged", "merged", (defArgs s_merged), (defBody s_merged), (defScope s_merged)⟩
def fd5 : DL.FD := ⟨fun K => (He.ma K (He.ga K "Store") "__init__"), "__init__", "Store.__init__", (defArgs s_Store_init), (defBody s_Store_init), (defScope s_Store_init)⟩
def fd6 : DL.FD := ⟨fun K => (DL.pfOf K (He.ma K (He.ga K "Store") "number")), "number", "Store.number", (defArgs s_Store_number), (defBody s_Store_number), (defScope s_Store_number)⟩
def fd7 : DL.FD := ⟨fun K => (He.ma K (He.ga K "Store") "__str__"), "__str__", "Store.__str__", (defArgs s_Store_str), (defBody s_Store_str), (defScope s_Store_str)⟩
def fd8 : DL.FD := ⟨fun K => (DL.pfOf K (He.ma K (He.ga K "Store") "runs")), "runs", "Store.runs", (defArgs s_Store_runs), (defBody s_Store_runs), (defScope s_Store_runs)⟩
def fd9 : DL.FD := ⟨fun K => (DL.pfOf K (He.ma K (He.ga K "Store") "total")), "total", "Store.total", (defArgs s_Store_total), (defBody s_Store_total), (defScope s_Store_total)⟩
def fd10 : DL.FD := ⟨fun K => (He.ga K "require_size"), "require_size", "require_size", (defArgs s_require_size), (defBody s_require_size), (defScope s_require_size)⟩
def fd11 : DL.FD := ⟨fun K => (He.ga K "space_in"), "space_in", "space_in", (defArgs s_space_in), (defBody s_space_in), (defScope s_space_in)⟩
def fd12 : DL.FD := ⟨fun K => (He.ma K (He.ga K "Store") "units"), "units", "Store.units", (defArgs s_Store_units), (defBody s_Store_units), (defScope s_Store_units)⟩
def fd13 : DL.FD := ⟨fun K => (He.ga K "_law_dice"), "_law_dice", "_law_dice", (defArgs s_law_dice), (defBody s_law_dice), (defScope s_law_dice)⟩
def fd14 : DL.FD := ⟨fun K => (He.ma K (He.ga K "Store") "__eq__"), "__eq__", "Store.__eq__", (defArgs s_Store_eq), (defBody s_Store_eq), (defScope s_Store_eq)⟩
def fd15 : DL.FD := ⟨fun K => (DL.pfOf K (He.ma K (He.ga K "Store") "rooms")), "rooms", "Store.rooms", (defArgs s_Store_rooms), (defBody s_Store_rooms), (defScope s_Store_rooms)⟩
def fd16 : DL.FD := ⟨fun K => (He.ga K "_law_roll"), "_law_roll", "_law_roll", (defArgs s_law_roll), (defBody s_law_roll), (defScope s_law_roll)⟩
def fd17 : DL.FD := ⟨fun K => (He.ga K "_law_great"), "_law_great", "_law_great", (defArgs s_law_great), (defBody s_law_great), (defScope s_law_great)⟩
def fd18 : DL.FD := ⟨fun K => (He.ga K "_law_pick"), "_law_pick", "_law_pick", (defArgs s_law_pick), (defBody s_law_pick), (defScope s_law_pick)⟩
def fd19 : DL.FD := ⟨fun K => (He.ga K "_law_great_store"), "_law_great_store", "_law_great_store", (defArgs s_law_great_store), (defBody s_law_great_store), (defScope s_law_great_store)⟩
def fd20 : DL.FD := ⟨fun K => (He.ga K "_law_made_store"), "_law_made_store", "_law_made_store", (defArgs s_law_made_store), (defBody s_law_made_store), (defScope s_law_made_store)⟩
def fd21 : DL.FD := ⟨fun K => (He.ga K "_law_merged"), "_law_merged", "_law_merged", (defArgs s_law_merged), (defBody s_law_merged), (defScope s_law_merged)⟩
def fd22 : DL.FD := ⟨fun K => (He.ga K "_law_small_store"), "_law_small_store", "_law_small_store", (defArgs s_law_small_store), (defBody s_law_small_store), (defScope s_law_small_store)⟩
def fd23 : DL.FD := ⟨fun K => (He.ma K (He.ga K "Store") "__contains__"), "__contains__", "Store.__contains__", (defArgs s_Store_contains), (defBody s_Store_contains), (defScope s_Store_contains)⟩
def fd24 : DL.FD := ⟨fun K => (He.ma K (He.ga K "Store") "__iter__"), "__iter__", "Store.__iter__", (defArgs s_Store_iter), (defBody s_Store_iter), (defScope s_Store_iter)⟩
def fd25 : DL.FD := ⟨fun K => (He.ma K (He.ga K "Store") "__len__"), "__len__", "Store.__len__", (defArgs s_Store_len), (defBody s_Store_len), (defScope s_Store_len)⟩
def fd26 : DL.FD := ⟨fun K => (DL.pfOf K (He.ma K (He.ga K "Store") "greatest")), "greatest", "Store.greatest", (defArgs s_Store_greatest), (defBody s_Store_greatest), (defScope s_Store_greatest)⟩
def fd27 : DL.FD := ⟨fun K => (DL.pfOf K (He.ma K (He.ga K "Store") "lines")), "lines", "Store.lines", (defArgs s_Store_lines), (defBody s_Store_lines), (defScope s_Store_lines)⟩
def fd28 : DL.FD := ⟨fun K => (He.ga K "_law_space"), "_law_space", "_law_space", (defArgs s_law_space), (defBody s_law_space), (defScope s_law_space)⟩
def fd29 : DL.FD := ⟨fun K => (He.ga K "_law_told_right"), "_law_told_right", "_law_told_right", (defArgs s_law_told_right), (defBody s_law_told_right), (defScope s_law_told_right)⟩
def fd30 : DL.FD := ⟨fun K => (He.ga K "_law_long_chain"), "_law_long_chain", "_law_long_chain", (defArgs s_law_long_chain), (defBody s_law_long_chain), (defScope s_law_long_chain)⟩
def fd31 : DL.FD := ⟨fun K => (He.ga K "_law_wild_sizes"), "_law_wild_sizes", "_law_wild_sizes", (defArgs s_law_wild_sizes), (defBody s_law_wild_sizes), (defScope s_law_wild_sizes)⟩
def fd32 : DL.FD := ⟨fun K => (He.ga K "_law_right"), "_law_right", "_law_right", (defArgs s_law_right), (defBody s_law_right), (defScope s_law_right)⟩
def fd33 : DL.FD := ⟨fun K => (He.ga K "law"), "law", "law", (defArgs s_law), (defBody s_law), (defScope s_law)⟩
def FNS : List DL.FD := [fd0, fd1, fd2, fd3, fd4, fd5, fd6, fd7, fd8, fd9, fd10, fd11, fd12, fd13, fd14, fd15, fd16, fd17, fd18, fd19, fd20, fd21, fd22, fd23, fd24, fd25, fd26, fd27, fd28, fd29, fd30, fd31, fd32, fd33]
def EX0 (K : PySem.W.Frag) : List Bool := [
  decide (PySem.W.nsIn K mainGlobals "Row" = some (some (.ref (He.ga K "Row")))),
  insTyB K (He.ga K "Row"),
  kitAll K (He.ga K "Row"),
  decide (PySem.W.nsIn K mainGlobals "Store" = some (some (.ref (He.ga K "Store")))),
  insTyB K (He.ga K "Store"),
  kitAll K (He.ga K "Store"),
  (([("Row", (He.ga K "Row")), ("Store", (He.ga K "Store"))] : List (Str × Addr)).all fun p => ([("Row", (He.ga K "Row")), ("Store", (He.ga K "Store"))] : List (Str × Addr)).all fun q => decide (PySem.W.kitOne K (.ref p.2) (.ref q.2) = some (decide (p.1 = q.1)))),
  (([("Row", (He.ga K "Row")), ("Store", (He.ga K "Store"))] : List (Str × Addr)).all fun p => insTyB K p.2),
  (([("Row", (He.ga K "Row")), ("Store", (He.ga K "Store"))] : List (Str × Addr)).all fun p => kitBack K p.2),
  decide (PySem.W.findIn K (.ref (He.ga K "Row")) "own_runs" = some none),
  decide (PySem.W.findIn K (.ref (He.ga K "Store")) "own_runs" = some none),
  decide (PySem.W.findIn K (.ref (He.ga K "Store")) "__ne__" = some (some (.builtin "object.__ne__"))),
  decide (PySem.W.mroIn K (He.ga K "Store") (.type "object") = some true),
  firstAll K (He.ga K "Store"),
  (([("Row", (He.ga K "Row")), ("Store", (He.ga K "Store"))] : List (Str × Addr)).all fun p => ([("Row", (He.ga K "Row")), ("Store", (He.ga K "Store"))] : List (Str × Addr)).all fun q => PySem.W.notFirst K q.2 (.ref p.2)),
  decide (PySem.W.nsIn K mainGlobals "InvalidNumber" = some (some (.ref (He.ga K "InvalidNumber")))),
  DL.xcB K (He.ga K "InvalidNumber") [.type "IndexError", .type "LookupError", .type "Exception", .type "BaseException", .type "object"] "IndexError.__new__",
  decide (PySem.W.findIn K (.ref (He.ga K "InvalidNumber")) "__setattr__" = some (some (.builtin "object.__setattr__"))),
  decide (PySem.W.findIn K (.ref (He.ga K "InvalidNumber")) "__getattribute__" = some (some (.builtin "BaseException.__getattribute__"))),
  decide (PySem.W.findIn K (.ref (He.ga K "InvalidNumber")) "__getattr__" = some none),
  decide (PySem.W.findIn K (.ref (He.ga K "InvalidNumber")) "value" = some none),
  decide (PySem.W.findIn K (.ref (He.ga K "InvalidNumber")) "__init__" = some (some (.ref (He.ma K (He.ga K "InvalidNumber") "__init__")))),
  decide (PySem.W.typeIn K (.ref (He.ma K (He.ga K "InvalidNumber") "__init__")) = some (.type "function")),
  PySem.W.keepIn K (.ref (He.ga K "InvalidNumber")),
  decide (PySem.W.subIn K (.ref (He.ga K "InvalidNumber")) (.type "BaseException") = some true),
  decide (PySem.W.typeIn K (.ref (He.ga K "InvalidNumber")) = some (.type "type")),
  PySem.W.hasDictIn K (He.ga K "InvalidNumber"),
  DL.fnBx K (He.ma K (He.ga K "InvalidNumber") "__init__") "InvalidNumber.__init__",
  decide (PySem.W.nsIn K mainGlobals "InvalidStore" = some (some (.ref (He.ga K "InvalidStore")))),
  PySem.W.excIn K (He.ga K "InvalidStore") [.type "ValueError", .type "Exception", .type "BaseException", .type "object"] "ValueError.__new__",
  PySem.W.keepIn K (.ref (He.ga K "InvalidStore")),
  decide (PySem.W.subIn K (.ref (He.ga K "InvalidStore")) (.type "BaseException") = some true),
  decide (PySem.W.typeIn K (.ref (He.ga K "InvalidStore")) = some (.type "type")),
  decide (PySem.W.nsIn K mainGlobals "is_integer" = some (some (.ref (He.ga K "is_integer")))),
  DL.fnB0 K (He.ga K "is_integer") "is_integer",
  PySem.W.keepIn K (.ref (He.ga K "is_integer")),
  decide (PySem.W.nsIn K mainGlobals "is_size" = some (some (.ref (He.ga K "is_size")))),
  DL.fnB0 K (He.ga K "is_size") "is_size",
  PySem.W.keepIn K (.ref (He.ga K "is_size")),
  decide (PySem.W.nsIn K mainGlobals "is_run" = some (some (.ref (He.ga K "is_run"))))]
def EX1 (K : PySem.W.Frag) : List Bool := [
  DL.fnB0 K (He.ga K "is_run") "is_run",
  PySem.W.keepIn K (.ref (He.ga K "is_run")),
  decide (PySem.W.nsIn K mainGlobals "merged" = some (some (.ref (He.ga K "merged")))),
  DL.fnB0 K (He.ga K "merged") "merged",
  PySem.W.keepIn K (.ref (He.ga K "merged")),
  decide (PySem.W.findIn K (.ref (He.ga K "Store")) "__init__" = some (some (.ref (He.ma K (He.ga K "Store") "__init__")))),
  PySem.W.isFn K (.ref (He.ma K (He.ga K "Store") "__init__")),
  PySem.W.makesIn K (He.ga K "Store"),
  PySem.W.keepIn K (.ref (He.ga K "Store")),
  DL.fnB0 K (He.ma K (He.ga K "Store") "__init__") "Store.__init__",
  PySem.W.keepIn K (.ref (He.ma K (He.ga K "Store") "__init__")),
  decide (PySem.W.findIn K (.ref (He.ga K "Store")) "number" = some (some (.ref (He.ma K (He.ga K "Store") "number")))),
  decide (PySem.W.specialIn K (.ref (He.ma K (He.ga K "Store") "number")) "__get__" = some (some (.builtin "property.__get__"))),
  decide (PySem.W.takesIn K (.ref (He.ma K (He.ga K "Store") "number")) = some true),
  DL.pfB K (He.ma K (He.ga K "Store") "number"),
  DL.fnB0 K (DL.pfOf K (He.ma K (He.ga K "Store") "number")) "Store.number",
  PySem.W.keepIn K (.ref (DL.pfOf K (He.ma K (He.ga K "Store") "number"))),
  decide (PySem.W.findIn K (.ref (He.ga K "Store")) "__str__" = some (some (.ref (He.ma K (He.ga K "Store") "__str__")))),
  PySem.W.isFn K (.ref (He.ma K (He.ga K "Store") "__str__")),
  DL.fnB0 K (He.ma K (He.ga K "Store") "__str__") "Store.__str__",
  PySem.W.keepIn K (.ref (He.ma K (He.ga K "Store") "__str__")),
  decide (PySem.W.findIn K (.ref (He.ga K "Store")) "runs" = some (some (.ref (He.ma K (He.ga K "Store") "runs")))),
  decide (PySem.W.specialIn K (.ref (He.ma K (He.ga K "Store") "runs")) "__get__" = some (some (.builtin "property.__get__"))),
  decide (PySem.W.takesIn K (.ref (He.ma K (He.ga K "Store") "runs")) = some true),
  DL.pfB K (He.ma K (He.ga K "Store") "runs"),
  DL.fnB0 K (DL.pfOf K (He.ma K (He.ga K "Store") "runs")) "Store.runs",
  PySem.W.keepIn K (.ref (DL.pfOf K (He.ma K (He.ga K "Store") "runs"))),
  decide (PySem.W.findIn K (.ref (He.ga K "Store")) "total" = some (some (.ref (He.ma K (He.ga K "Store") "total")))),
  decide (PySem.W.specialIn K (.ref (He.ma K (He.ga K "Store") "total")) "__get__" = some (some (.builtin "property.__get__"))),
  decide (PySem.W.takesIn K (.ref (He.ma K (He.ga K "Store") "total")) = some true),
  DL.pfB K (He.ma K (He.ga K "Store") "total"),
  DL.fnB0 K (DL.pfOf K (He.ma K (He.ga K "Store") "total")) "Store.total",
  PySem.W.keepIn K (.ref (DL.pfOf K (He.ma K (He.ga K "Store") "total"))),
  decide (PySem.W.nsIn K mainGlobals "require_size" = some (some (.ref (He.ga K "require_size")))),
  DL.fnB0 K (He.ga K "require_size") "require_size",
  PySem.W.keepIn K (.ref (He.ga K "require_size")),
  decide (PySem.W.nsIn K mainGlobals "space_in" = some (some (.ref (He.ga K "space_in")))),
  DL.fnB0 K (He.ga K "space_in") "space_in",
  PySem.W.keepIn K (.ref (He.ga K "space_in")),
  decide (PySem.W.findIn K (.ref (He.ga K "Store")) "units" = some (some (.ref (He.ma K (He.ga K "Store") "units"))))]
def EX2 (K : PySem.W.Frag) : List Bool := [
  PySem.W.isFn K (.ref (He.ma K (He.ga K "Store") "units")),
  DL.fnB0 K (He.ma K (He.ga K "Store") "units") "Store.units",
  PySem.W.keepIn K (.ref (He.ma K (He.ga K "Store") "units")),
  decide (PySem.W.nsIn K mainGlobals "_law_dice" = some (some (.ref (He.ga K "_law_dice")))),
  DL.fnB0 K (He.ga K "_law_dice") "_law_dice",
  PySem.W.keepIn K (.ref (He.ga K "_law_dice")),
  decide (PySem.W.findIn K (.ref (He.ga K "Store")) "__eq__" = some (some (.ref (He.ma K (He.ga K "Store") "__eq__")))),
  PySem.W.isFn K (.ref (He.ma K (He.ga K "Store") "__eq__")),
  DL.fnB0 K (He.ma K (He.ga K "Store") "__eq__") "Store.__eq__",
  PySem.W.keepIn K (.ref (He.ma K (He.ga K "Store") "__eq__")),
  decide (PySem.W.findIn K (.ref (He.ga K "Store")) "rooms" = some (some (.ref (He.ma K (He.ga K "Store") "rooms")))),
  decide (PySem.W.specialIn K (.ref (He.ma K (He.ga K "Store") "rooms")) "__get__" = some (some (.builtin "property.__get__"))),
  decide (PySem.W.takesIn K (.ref (He.ma K (He.ga K "Store") "rooms")) = some true),
  DL.pfB K (He.ma K (He.ga K "Store") "rooms"),
  DL.fnB0 K (DL.pfOf K (He.ma K (He.ga K "Store") "rooms")) "Store.rooms",
  PySem.W.keepIn K (.ref (DL.pfOf K (He.ma K (He.ga K "Store") "rooms"))),
  decide (PySem.W.nsIn K mainGlobals "_law_roll" = some (some (.ref (He.ga K "_law_roll")))),
  DL.fnB0 K (He.ga K "_law_roll") "_law_roll",
  PySem.W.keepIn K (.ref (He.ga K "_law_roll")),
  decide (PySem.W.nsIn K mainGlobals "_law_great" = some (some (.ref (He.ga K "_law_great")))),
  DL.fnB0 K (He.ga K "_law_great") "_law_great",
  PySem.W.keepIn K (.ref (He.ga K "_law_great")),
  decide (PySem.W.nsIn K mainGlobals "_law_pick" = some (some (.ref (He.ga K "_law_pick")))),
  DL.fnB0 K (He.ga K "_law_pick") "_law_pick",
  PySem.W.keepIn K (.ref (He.ga K "_law_pick")),
  decide (PySem.W.nsIn K mainGlobals "_law_great_store" = some (some (.ref (He.ga K "_law_great_store")))),
  DL.fnB0 K (He.ga K "_law_great_store") "_law_great_store",
  PySem.W.keepIn K (.ref (He.ga K "_law_great_store")),
  decide (PySem.W.nsIn K mainGlobals "_law_made_store" = some (some (.ref (He.ga K "_law_made_store")))),
  DL.fnB0 K (He.ga K "_law_made_store") "_law_made_store",
  PySem.W.keepIn K (.ref (He.ga K "_law_made_store")),
  decide (PySem.W.nsIn K mainGlobals "_law_merged" = some (some (.ref (He.ga K "_law_merged")))),
  DL.fnB0 K (He.ga K "_law_merged") "_law_merged",
  PySem.W.keepIn K (.ref (He.ga K "_law_merged")),
  decide (PySem.W.nsIn K mainGlobals "_law_small_store" = some (some (.ref (He.ga K "_law_small_store")))),
  DL.fnB0 K (He.ga K "_law_small_store") "_law_small_store",
  PySem.W.keepIn K (.ref (He.ga K "_law_small_store")),
  decide (PySem.W.findIn K (.ref (He.ga K "Store")) "__contains__" = some (some (.ref (He.ma K (He.ga K "Store") "__contains__")))),
  PySem.W.isFn K (.ref (He.ma K (He.ga K "Store") "__contains__")),
  DL.fnB0 K (He.ma K (He.ga K "Store") "__contains__") "Store.__contains__"]
def EX3 (K : PySem.W.Frag) : List Bool := [
  PySem.W.keepIn K (.ref (He.ma K (He.ga K "Store") "__contains__")),
  decide (PySem.W.findIn K (.ref (He.ga K "Store")) "__iter__" = some (some (.ref (He.ma K (He.ga K "Store") "__iter__")))),
  PySem.W.isFn K (.ref (He.ma K (He.ga K "Store") "__iter__")),
  DL.fnB0 K (He.ma K (He.ga K "Store") "__iter__") "Store.__iter__",
  PySem.W.keepIn K (.ref (He.ma K (He.ga K "Store") "__iter__")),
  decide (PySem.W.findIn K (.ref (He.ga K "Store")) "__len__" = some (some (.ref (He.ma K (He.ga K "Store") "__len__")))),
  PySem.W.isFn K (.ref (He.ma K (He.ga K "Store") "__len__")),
  DL.fnB0 K (He.ma K (He.ga K "Store") "__len__") "Store.__len__",
  PySem.W.keepIn K (.ref (He.ma K (He.ga K "Store") "__len__")),
  decide (PySem.W.findIn K (.ref (He.ga K "Store")) "greatest" = some (some (.ref (He.ma K (He.ga K "Store") "greatest")))),
  decide (PySem.W.specialIn K (.ref (He.ma K (He.ga K "Store") "greatest")) "__get__" = some (some (.builtin "property.__get__"))),
  decide (PySem.W.takesIn K (.ref (He.ma K (He.ga K "Store") "greatest")) = some true),
  DL.pfB K (He.ma K (He.ga K "Store") "greatest"),
  DL.fnB0 K (DL.pfOf K (He.ma K (He.ga K "Store") "greatest")) "Store.greatest",
  PySem.W.keepIn K (.ref (DL.pfOf K (He.ma K (He.ga K "Store") "greatest"))),
  decide (PySem.W.findIn K (.ref (He.ga K "Store")) "lines" = some (some (.ref (He.ma K (He.ga K "Store") "lines")))),
  decide (PySem.W.specialIn K (.ref (He.ma K (He.ga K "Store") "lines")) "__get__" = some (some (.builtin "property.__get__"))),
  decide (PySem.W.takesIn K (.ref (He.ma K (He.ga K "Store") "lines")) = some true),
  DL.pfB K (He.ma K (He.ga K "Store") "lines"),
  DL.fnB0 K (DL.pfOf K (He.ma K (He.ga K "Store") "lines")) "Store.lines",
  PySem.W.keepIn K (.ref (DL.pfOf K (He.ma K (He.ga K "Store") "lines"))),
  decide (PySem.W.nsIn K mainGlobals "_law_space" = some (some (.ref (He.ga K "_law_space")))),
  DL.fnB0 K (He.ga K "_law_space") "_law_space",
  PySem.W.keepIn K (.ref (He.ga K "_law_space")),
  decide (PySem.W.nsIn K mainGlobals "_law_told_right" = some (some (.ref (He.ga K "_law_told_right")))),
  DL.fnB0 K (He.ga K "_law_told_right") "_law_told_right",
  PySem.W.keepIn K (.ref (He.ga K "_law_told_right")),
  decide (PySem.W.nsIn K mainGlobals "_law_long_chain" = some (some (.ref (He.ga K "_law_long_chain")))),
  DL.fnB0 K (He.ga K "_law_long_chain") "_law_long_chain",
  PySem.W.keepIn K (.ref (He.ga K "_law_long_chain")),
  decide (PySem.W.nsIn K mainGlobals "_law_wild_sizes" = some (some (.ref (He.ga K "_law_wild_sizes")))),
  DL.fnB0 K (He.ga K "_law_wild_sizes") "_law_wild_sizes",
  PySem.W.keepIn K (.ref (He.ga K "_law_wild_sizes")),
  decide (PySem.W.nsIn K mainGlobals "_law_right" = some (some (.ref (He.ga K "_law_right")))),
  DL.fnB0 K (He.ga K "_law_right") "_law_right",
  PySem.W.keepIn K (.ref (He.ga K "_law_right")),
  decide (PySem.W.nsIn K mainGlobals "law" = some (some (.ref (He.ga K "law")))),
  DL.fnB0 K (He.ga K "law") "law",
  PySem.W.keepIn K (.ref (He.ga K "law")),
  decide (PySem.W.nsIn K mainGlobals "abs" = some none)]
def EX4 (K : PySem.W.Frag) : List Bool := [
  decide (PySem.W.nsIn K mainGlobals "all" = some none),
  decide (PySem.W.nsIn K mainGlobals "any" = some none),
  decide (PySem.W.nsIn K mainGlobals "bool" = some none),
  decide (PySem.W.nsIn K mainGlobals "int" = some none),
  decide (PySem.W.nsIn K mainGlobals "isinstance" = some none),
  decide (PySem.W.nsIn K mainGlobals "iter" = some none),
  decide (PySem.W.nsIn K mainGlobals "len" = some none),
  decide (PySem.W.nsIn K mainGlobals "list" = some none),
  decide (PySem.W.nsIn K mainGlobals "max" = some none),
  decide (PySem.W.nsIn K mainGlobals "min" = some none),
  decide (PySem.W.nsIn K mainGlobals "range" = some none),
  decide (PySem.W.nsIn K mainGlobals "repr" = some none),
  decide (PySem.W.nsIn K mainGlobals "set" = some none),
  decide (PySem.W.nsIn K mainGlobals "sorted" = some none),
  decide (PySem.W.nsIn K mainGlobals "str" = some none),
  decide (PySem.W.nsIn K mainGlobals "sum" = some none),
  decide (PySem.W.nsIn K mainGlobals "tuple" = some none),
  DL.ciB K "LIMIT" 100000000000000000000000000000000000000000000000000000000000000000000000000000000000000000000000000000000000000000000000000000000000000000000000000000000000000000000000000000000000000000000000000000000,
  DL.ciB K "MAX_RUNS" 40]
def EX (K : PySem.W.Frag) : List Bool := (EX0 K ++ (EX1 K ++ (EX2 K ++ (EX3 K ++ (EX4 K
 ++ [])))))
def loose0 : List Str := ["_wall", "LIMIT", "is_integer", "is_size", "PackError", "InvalidStore", "InvalidOperation", "InvalidNumber", "TooMany", "require_size", "MAX_RUNS", "is_run", "merged", "store_of", "Row", "space_in", "Store", "few_runs", "_law_dice", "_law_roll", "_law_pick", "_law_great", "_law_long_chain", "_law_small_store", "_law_great_store", "_law_merged", "_law_made_store", "_law_space", "_law_wild_sizes", "_law_told_right"]
def loose1 : List Str := ["_law_right"]
def loose : List Str := loose0 ++ loose1
abbrev RR : PySem.W.OpenRow := PySem.W.OpenLaw.row PySem.Challenge.rw_chainpacks_k14_stores_told
abbrev hk : PySem.W.Hook := DL.hookM 0 FNS EX
theorem run (w : World) : HandSHeadRun.RunEq RR (PySem.W.view RR.prog [36]) hk (DL.obM 0 FNS EX) 40000 loose w := by
  intro os
  kernel_rfl
end DL.Law
set_option Elab.async false
set_option linter.all false
set_option maxRecDepth 100000
set_option maxHeartbeats 4000000
namespace DL.Law
open DL
open PySem PySem.Spec PyProof.Rows L2
variable [TabsC]
local macro_rules | `(tactic| walk_at "dl") => `(tactic| simp only [DL.sSeq, DL.sSet, DL.sSetM, DL.sNext, DL.sFalse, DL.sBreak, DL.sCont, DL.sExpr, DL.sRet, DL.sRetN, DL.sIf, DL.sAsg, DL.sPar, DL.sParM, DL.sPar3, DL.sApp, DL.sExt, DL.sFor, DL.sFrz, DL.frzD, DL.mC, DL.mVar, DL.mMut, DL.mBin, DL.mCmp, DL.mCmpT, DL.mChain, DL.mChainT, DL.mTest, DL.mVal, DL.mNotT, DL.mAndT, DL.mOrT, DL.mAnd, DL.mOr, DL.mIf, DL.mNil, DL.mCons, DL.mTup, DL.mLst, DL.mB, DL.mCall, DL.mCall0, DL.mThunk, DL.mThk, DL.e_dm0, DL.e_dmv, DL.e_dmu, DL.e_dmm, DL.e_dms, DL.e_dmc, DL.mRepr, DL.sAug, DL.e_fI2, DL.fAugAdd, DL.fAugSub, DL.sRaise, DL.sRaise0, DL.sTry, DL.hsM, DL.hPlain, DL.hAs, DL.mEF, DL.mSFld, DL.sFld, DL.putFD, DL.mMeth0, DL.mProp, DL.mMake, DL.mMakeS, DL.mIsiC, DL.mIsiT, DL.mKeys, DL.mVals, DL.mItems, DL.mDGet2, DL.mFunD, DL.mFunS, DL.mFunM, DL.mFunMS, DL.endK, DL.endM, DV.s.injEq, DL.fIs, DL.fIsNot, DL.e_nn, DL.e_nt, DL.e_nl, DL.e_ni, DL.e_fIx_1, DL.e_fIx_2, DL.e_fIx_3, DL.e_fIx_4, DL.e_fAdd_1, DL.e_fAdd_2, DL.e_fAdd_3, DL.e_fAdd_4, DL.e_fSub_1, DL.e_fEq_i, DL.e_fNe_i, DL.e_fEq_b, DL.e_fNe_b, DL.e_fI_1, DL.fMul, DL.fDiv, DL.fMod, DL.fPow, DL.e_fCmp_1, DL.e_fCmp_2, DL.fLt, DL.fLe, DL.fGt, DL.fGe, DL.e_fIsB_1, DL.e_fIsNotB_1, DL.e_fLen_1, DL.e_fLen_2, DL.e_fLen_3, DL.e_fLen_4, DL.eAbs, DL.eMax2, DL.eMin2, DL.e_fInt_1, DL.e_fInt_2, DL.fStr, DL.e_fTuple_1, DL.e_fTuple_2, DL.e_fList_1, DL.e_fList_2, DL.mDice, DL.mNeg, DL.mSlice, DL.mNoPart, DL.mPart, DL.e_fSlice_1, DL.e_fSlice_2, DL.mSeq, DL.mRange1, DL.mRange2, DL.mRange3, DL.mSigns, DL.mJoin, DL.mRev, DL.mStar, DL.mDGet, DL.mFld, DL.mMeth, DL.sPut, DL.sPutL, DL.sPutT, DL.mCallFn, DL.mCallK, DL.mRepT, DL.mRepU, DL.mCompK, DL.mListVals, DL.mListItems, DL.mCompD, DL.mRep, DL.sParMM, DL.sParVM, DL.mLend, DL.sIfW, DL.e_fAddL, DL.sAppPop, DL.mSumVals, DL.mEqO, DL.mInO, DL.mLenO, DL.mGetO, DL.mFmt, DL.mJs, DL.mJoined, DL.mStrO, DL.mBinO, DL.e_inD, DL.e_lenD, DL.e_listD, DL.e_tupD, DL.e_eqD, DL.e_neD, DL.e_keyI, DL.e_keyS, DL.mFunMD, DL.mMaxLenD, DL.mTupRg1, DL.mTupRg2, DL.mChain3, DL.fSortSet, DL.mZip, DL.mZipM, DL.mEnumT, DL.iOf_int, DL.mZip3, DL.mBestD, DL.gN, DL.gT, DL.gL, DL.gsNil, DL.gsCons, DL.mYes, DL.mComp, DL.wipeD, DL.mDisp, DL.mDStar, DL.mPairs, DL.mpNil, DL.mpCons, DL.startD, DL.mFun, List.getElem?_cons_zero, List.getElem?_cons_succ, List.set_cons_zero, List.set_cons_succ, Option.some.injEq, DV.v.injEq, DV.m.injEq, exists_eq_left', exists_eq_left, List.cons.injEq, and_true, true_and, List.map_cons, List.map_nil, List.length_cons, List.length_nil, List.cons_append, List.nil_append, List.replicate_succ, List.replicate_zero, Nat.reduceSub, Nat.reduceAdd, Nat.zero_add, Nat.zero_le, sizeLine_eq, Nat.reduceLeDiff, Int.reduceLE, Int.reduceLT, DL.p61, Int.reduceNeg, Int.zero_add, D.int.injEq, D.bool.injEq, D.str.injEq, D.list.injEq, D.tup.injEq, D.dict.injEq, DL.mListZip, DL.mListO, DL.mDPopN, DL.e_srcT, DL.e_srcK, DL.mLCount, DL.fSumT, DL.e_lk, D.obj.injEq, List.drop_zero, List.take_zero, List.take_succ_cons, List.take_nil, List.drop_succ_cons, List.drop_nil, D.script.injEq, Int.reduceToNat, exists_eq_right, exists_eq_right', List.append_nil, DL.ex2, DL.ex3, DL.atI_0, DL.atI_1, DL.cut_01, reduceCtorEq, false_and, and_false, exists_false, false_or, or_false, Bool.not_true, Bool.not_false, Bool.false_eq_true, if_true, if_false, ite_true, ite_false, decide_true, decide_false, reduceIte])
/-- is_integer -/
def b_is_integer : SM :=
  (sRet (mAnd (mIsiT owns "int" (mVar 0)) (mAnd (mVal (mNotT (mTest (mIsiT owns "bool" (mVar 0))))) (mChain fLt fLt (mNeg (mC (.int 100000000000000000000000000000000000000000000000000000000000000000000000000000000000000000000000000000000000000000000000000000000000000000000000000000000000000000000000000000000000000000000000000000000))) (mVar 0) (mC (.int 100000000000000000000000000000000000000000000000000000000000000000000000000000000000000000000000000000000000000000000000000000000000000000000000000000000000000000000000000000000000000000000000000000000))))))
def m_is_integer : FM := mFun 1 1 b_is_integer
def c_is_integer : FM := fun ds Q _ => ∃ d, ds = [d] ∧ okB owns d ∧ Q (.bool (intD d))
theorem c_is_integer_ok : ∀ ds Q E, c_is_integer ds Q E → m_is_integer ds Q E := by
  rintro ds Q E ⟨d, rfl, ht, q⟩
  unfold m_is_integer b_is_integer
  walk_at "dl"
  rw [isx_int ht]
  refine ⟨_, rfl, ?_⟩
  cases d with
  | int i =>
    rw [show (D.int i).isI = true from rfl, if_pos rfl, isx_bool ht]
    refine ⟨_, rfl, ?_⟩
    rw [show (D.int i).isB = false from rfl]
    walk_at "dl"
    rw [lim_lit]
    simp only [intD] at q
    by_cases h1 : -(10 ^ 200) < i
    · rw [decide_eq_true h1, Bool.true_and] at q
      rw [decide_eq_true h1, if_pos rfl]
      exact q
    · rw [decide_eq_false h1, Bool.false_and] at q
      rw [decide_eq_false h1, if_neg (by decide)]
      exact q
  | bool b =>
    rw [show (D.bool b).isI = true from rfl, if_pos rfl, isx_bool ht]
    refine ⟨_, rfl, ?_⟩
    rw [show (D.bool b).isB = true from rfl, if_neg (by decide)]
    exact q
  | _ => exact q
/-- is_size -/
def b_is_size : SM :=
  (sRet (mAnd (mCall c_is_integer (mCons (mVar 0) mNil)) (mCmp fGe (mVar 0) (mC (.int 1)))))
def m_is_size : FM := mFun 1 1 b_is_size
def c_is_size : FM := fun ds Q _ => ∃ d, ds = [d] ∧ okB owns d ∧ Q (.bool (sizD d))
theorem c_is_size_ok : ∀ ds Q E, c_is_size ds Q E → m_is_size ds Q E := by
  rintro ds Q E ⟨d, rfl, ht, q⟩
  unfold m_is_size b_is_size
  walk_at "dl"
  refine ⟨d, rfl, ht, _, rfl, ?_⟩
  cases d with
  | int i =>
    rw [siz_eq] at q
    cases h : intD (.int i) with
    | true =>
      rw [h, Bool.true_and] at q
      rw [if_pos rfl]
      exact q
    | false =>
      rw [h, Bool.false_and] at q
      rw [if_neg (by decide)]
      exact q
  | _ => exact q
theorem isZ {d : D} {Q : D → Prop} {E : Er → Prop} (h : d.tyn.isSome = true) (q : Q (.bool (sizD d))) : c_is_size [d] Q E := ⟨d, rfl, .inl h, q⟩
theorem isZO {d : D} {Q : D → Prop} {E : Er → Prop} (h : okB owns d) (q : Q (.bool (sizD d))) : c_is_size [d] Q E := ⟨d, rfl, h, q⟩
/-- is_run -/
def b_is_run : SM :=
  (sRet (mAnd (mIsiT owns "tuple" (mVar 0)) (mAnd (mCmp fEq (mB fLen (mCons (mVar 0) mNil)) (mC (.int 2))) (mAnd (mCall c_is_size (mCons (mBin fIx (mVar 0) (mC (.int 0))) mNil)) (mCall c_is_size (mCons (mBin fIx (mVar 0) (mC (.int 1))) mNil))))))
def m_is_run : FM := mFun 1 1 b_is_run
def c_is_run : FM := fun ds Q _ => ∃ d, ds = [d] ∧ d.tyn.isSome = true ∧ (∀ xs, d = .tup xs → xs.length ≤ 1000 ∧ ∀ x, x ∈ xs → x.tyn.isSome = true) ∧ Q (.bool (runD d))
theorem c_is_run_ok : ∀ ds Q E, c_is_run ds Q E → m_is_run ds Q E := by
  rintro ds Q E ⟨d, rfl, ht, hx, q⟩
  unfold m_is_run b_is_run
  walk_at "dl"
  rw [isx_tup (.inl ht)]
  refine ⟨_, rfl, ?_⟩
  cases d with
  | tup xs =>
    rw [show (D.tup xs).isT = true from rfl, if_pos rfl]
    obtain ⟨hl, hx⟩ := hx xs rfl
    walk_at "dl"
    match xs, hl, hx, q with
    | [], _, _, q => exact q
    | [a], _, _, q => exact q
    | [a, b], _, hx, q =>
      rw [if_pos (by rfl)]
      refine ⟨a, rfl, isZ (hx a (by simp)) ⟨_, rfl, ?_⟩⟩
      cases ha : sizD a with
      | true =>
        rw [if_pos rfl]
        refine ⟨b, rfl, isZ (hx b (by simp)) ?_⟩
        simp only [runD, ha, Bool.true_and] at q
        exact q
      | false =>
        rw [if_neg (by decide)]
        simp only [runD, ha, Bool.false_and] at q
        exact q
    | a :: b :: c :: r, _, _, q =>
      rw [if_neg (by simp; omega)]
      exact q
  | _ => exact q
/-- merged -/
def b_merged : SM :=
  (sSeq (sSetM 1 (mLst mNil))
  (sSeq (sFor (mSeq (mVar 0)) (gT 2 (gsCons (gN 2) (gsCons (gN 3) gsNil)))
  (sIf (mAndT (mCmpT fNe (mMut 1) (mLst mNil)) (mCmpT fEq (mBin fIx (mBin fIx (mMut 1) (mNeg (mC (.int 1)))) (mC (.int 0))) (mVar 2)))
    (sPutL 1 (mNeg (mC (.int 1))) (mTup (mCons (mVar 2) (mCons (mBin fAdd (mBin fIx (mBin fIx (mMut 1) (mNeg (mC (.int 1)))) (mC (.int 1))) (mVar 3)) mNil))))
    (sApp 1 (mTup (mCons (mVar 2) (mCons (mVar 3) mNil))))))
  (sFrz 1 (sRet (mVar 1)))))
def m_merged : FM := mFun 1 4 b_merged
def c_merged : FM := fun ds Q _ => ∃ L : Runs, (ds = [.tup (L.map pairD)] ∨ ds = [.list (L.map pairD)]) ∧ L.length ≤ 1000000 ∧ Q (.list ((mergeT L).map pairD))
theorem c_merged_ok : ∀ ds Q E, c_merged ds Q E → m_merged ds Q E := by
  rintro ds Q E ⟨L, hd, hl, q⟩
  have run : ∀ (z : D), forL (gT 2 (gsCons (gN 2) (gsCons (gN 3) gsNil))) (sIf (mAndT (mCmpT fNe (mMut 1) (mLst mNil)) (mCmpT fEq (mBin fIx (mBin fIx (mMut 1) (mNeg (mC (.int 1)))) (mC (.int 0))) (mVar 2)))
      (sPutL 1 (mNeg (mC (.int 1))) (mTup (mCons (mVar 2) (mCons (mBin fAdd (mBin fIx (mBin fIx (mMut 1) (mNeg (mC (.int 1)))) (mC (.int 1))) (mVar 3)) mNil))))
      (sApp 1 (mTup (mCons (mVar 2) (mCons (mVar 3) mNil))))) (L.map pairD) [.v z, .m (.list []), .u, .u] { endK Q E with nx := fun δ => sFrz 1 (sRet (mVar 1)) δ (endK Q E) } := fun z => by
    refine forL_inv (fun i δ => ∃ x y, δ = [DV.v z, .m (.list ((mergeT (L.take i)).map pairD)), x, y]) (fun i d δ N hd ⟨x, y, hδ⟩ hN => ?_) ⟨.u, .u, rfl⟩ fun δ ⟨x, y, hδ⟩ => ?_
    · subst hδ
      rw [List.getElem?_map, Option.map_eq_some_iff] at hd
      obtain ⟨p, hp, rfl⟩ := hd
      have hi := (List.getElem?_eq_some_iff.mp hp).1
      have ht : L.take (i + 1) = L.take i ++ [p] := by rw [List.take_succ_eq_append_getElem hi, (List.getElem?_eq_some_iff.mp hp).2]
      have hm := mergeT_len (L.take i)
      rw [List.length_take] at hm
      have ep : ∀ p : Int × Int, pairD p = .tup [.int p.1, .int p.2] := fun _ => rfl
      rw [ep p]
      walk_at "dl"
      refine ⟨(fineR _).fine (by decide), (fineN_list (n := 0) (ds := []) fun d hd => by cases hd).fine (by decide), ?_⟩
      rw [eqD_list]
      have hN' := hN
      rw [ht, mergeT_snoc] at hN'
      rcases List.eq_nil_or_concat (mergeT (L.take i)) with e | ⟨l, q0, e⟩
      · rw [e] at hN' ⊢
        simp only [List.map_nil, eqAll, Bool.not_true, Bool.false_eq_true, if_false]
        exact ⟨by simp, hN' _ ⟨_, _, rfl⟩⟩
      · rw [List.concat_eq_append] at e
        rw [e, mstep_end] at hN'
        rw [e] at hm ⊢
        rw [List.map_append, List.map_cons, List.map_nil]
        rw [show eqAll (l.map pairD ++ [pairD q0]) [] = false by cases l <;> rfl]
        simp only [Bool.not_false, if_true]
        refine ⟨_, atI_end, ?_⟩
        rw [ep q0]
        walk_at "dl"
        by_cases h : q0.1 = p.1
        · rw [if_pos h] at hN'
          rw [if_pos (by rw [decide_eq_true h])]
          refine ⟨_, atI_end, ?_⟩
          walk_at "dl"
          refine ⟨_, _, rfl, ix_last _ _, hN' _ ⟨.v (.int p.1), .v (.int p.2), ?_⟩⟩
          rw [List.map_append, List.set_append_right _ _ (Nat.le_refl _), Nat.sub_self] <;> rfl
        · rw [if_neg h] at hN'
          rw [if_neg (by rw [decide_eq_true_eq]; exact h)]
          refine ⟨?_, hN' _ ⟨.v (.int p.1), .v (.int p.2), by rw [List.map_append, List.map_append] <;> rfl⟩⟩
          rw [List.length_append, List.length_singleton] at hm
          rw [List.length_append, List.length_map, List.length_singleton]
          omega
    · subst hδ
      rw [List.length_map, List.take_length]
      walk_at "dl"
      exact q
  rcases hd with rfl | rfl
  · unfold m_merged b_merged
    have := run (.tup (L.map pairD))
    walk_at "dl"
    exact this
  · unfold m_merged b_merged
    have := run (.list (L.map pairD))
    walk_at "dl"
    exact this
/-- Store.__init__ -/
def b_Store_init : SM :=
  (sIf (mAndT (mCmpT fEq (mB fLen (mCons (mVar 1) mNil)) (mC (.int 1))) (mTest (mIsiC owns "Row" (mBin fIx (mVar 1) (mC (.int 0))))))
  (sFld 0 "Store" "own_runs" (mFld "Row" (mBin fIx (mVar 1) (mC (.int 0))) "own_runs"))
  (sSeq (sIf (mNotT (mTest (mB fAll (mCons (mComp [2] (mSeq (mVar 1)) (gN 2) mYes (mCall c_is_run (mCons (mVar 2) mNil))) mNil))))
    (sRaise0 "InvalidStore")
    sNext)
    (sSeq (sSet 3 (mCall c_merged (mCons (mVar 1) mNil)))
    (sSeq (sIf (mCmpT fGt (mB fLen (mCons (mVar 3) mNil)) (mC (.int 40)))
    (sRaise0 "InvalidStore")
    sNext)
    (sFld 0 "Store" "own_runs" (mB fTuple (mCons (mVar 3) mNil)))))))
def m_Store_init : MM := mFunMS 4 b_Store_init
/-- stores of runs, of a row that is made already -/
def c_Store_init : MM := fun self ds P E => self = .obj "Store" [] ∧ ((∃ L : Runs, ds = [rowD L] ∧ P (storeD L) .none) ∨ (ds.length ≤ 100 ∧ (∀ d, d ∈ ds → runArg d) ∧ (ds.all runD = false → ∀ z, E z (noE' "InvalidStore")) ∧ ∀ L : Runs, ds = L.map pairD → ds.all runD = true → if (mergeT L).length ≤ 40 then P (storeD (mergeT L)) .none else ∀ z, E z (noE' "InvalidStore")))
theorem c_Store_init_ok : ∀ self ds P E, c_Store_init self ds P E → m_Store_init self ds P E := by
  rintro self ds P E ⟨rfl, h⟩
  unfold m_Store_init b_Store_init
  rcases h with ⟨L, rfl, q⟩ | ⟨hl, ha, he, q⟩
  · walk_at "dl"
    rw [if_pos (by rfl)]
    refine ⟨.inr ⟨_, _, rfl, by decide⟩, _, rfl, ?_⟩
    rw [if_pos (by rfl)]
    exact ⟨_, rfl, _, rfl, [], by decide, rfl, q⟩
  · walk_at "dl"
    refine ⟨by omega, ?_⟩
    have tail : compL (gN 2) mYes (mCall c_is_run (mCons (mVar 2) mNil)) [DV.s (.obj "Store" []), .v (.tup ds), .u, .u] ds [] fun d => fAll [d] fun d => ∃ c, d = .bool c ∧ if (!c) = true then E (.obj "Store" []) { cls := "InvalidStore", arg := none } else
        c_merged [.tup ds] (fun d => fLen [d] fun x => fCmp (fun i j => decide (j < i)) (fun i j => decide (j < i)) x (.int 40) fun c => if c = true then E (.obj "Store" []) { cls := "InvalidStore", arg := none } else fTuple [d] fun v => ∃ ds, ds.length < 900 ∧ [] = ds ∧ P (.obj "Store" (putFD "own_runs" v ds)) .none) fun er => E (.obj "Store" []) er := by
      refine compL_map (fun d => .bool (runD d)) (fun d hd R S hR => ?_) ?_
      · walk_at "dl"
        exact ⟨d, rfl, (ha d hd).1, (ha d hd).2, hR⟩
      · refine ⟨ds.map runD, by rw [List.nil_append, List.map_map] <;> rfl, _, rfl, ?_⟩
        cases hall : ds.all runD with
        | false =>
          rw [if_pos (by rw [List.all_map]; show (!ds.all runD) = true; rw [hall]; rfl)]
          exact he hall _
        | true =>
          rw [if_neg (by rw [List.all_map]; show ¬ (!ds.all runD) = true; rw [hall]; decide)]
          obtain ⟨L, rfl, hL⟩ := runs_of hall
          have q' := q L rfl hall
          rw [List.length_map] at hl
          refine ⟨L, .inl rfl, by omega, ?_⟩
          walk_at "dl"
          rw [List.length_map]
          by_cases h40 : (mergeT L).length ≤ 40
          · rw [if_pos h40] at q'
            rw [if_neg (by rw [decide_eq_true_eq]; omega)]
            exact ⟨[], by decide, rfl, q'⟩
          · rw [if_neg h40] at q'
            rw [if_pos (by rw [decide_eq_true_eq]; omega)]
            exact q' _
    split
    · rename_i h
      match ds, h, tail with
      | [d], _, tail =>
        refine ⟨d, rfl, .inl (ha d (by simp)).1, _, rfl, ?_⟩
        rw [isCls_row (ha d (by simp)).1, if_neg (by decide)]
        exact tail
    · exact tail
theorem init_ok {M : Runs} {P : D → D → Prop} {E : D → Er → Prop} (hl : M.length ≤ 100) (hM : ∀ p, p ∈ M → (1 ≤ p.1 ∧ p.1 < 10 ^ 200) ∧ 1 ≤ p.2 ∧ p.2 < 10 ^ 200) (h40 : (mergeT M).length ≤ 40) (q : P (storeD (mergeT M)) .none) : c_Store_init (.obj "Store" []) (M.map pairD) P E := by
  have all : (M.map pairD).all runD = true := by
    rw [List.all_map]
    exact List.all_eq_true.mpr fun p hp => run_yes (hM p hp)
  refine ⟨rfl, .inr ⟨by rw [List.length_map]; exact hl, fun d hd => ?_, fun h => ?_, fun L hL _ => ?_⟩⟩
  · obtain ⟨p, hp, rfl⟩ := List.mem_map.mp hd
    exact run_arg p
  · rw [all] at h; cases h
  · rw [← runs_inj hL, if_pos h40]
    exact q
/-- Store.number -/
def b_Store_number : SM :=
  (sRet (mB fSum (mCons (mComp [1, 2] (mSeq (mFld "Store" (mVar 0) "own_runs")) (gT 2 (gsCons (gN 1) (gsCons (gN 2) gsNil))) mYes (mVar 2)) mNil)))
def m_Store_number : FM := mFun 1 3 b_Store_number
def c_Store_number : FM := fun ds Q _ => ∃ L : Runs, ds = [storeD L] ∧ Q (.int (numT L))
theorem c_Store_number_ok : ∀ ds Q E, c_Store_number ds Q E → m_Store_number ds Q E := by
  rintro ds Q E ⟨L, rfl, q⟩
  unfold m_Store_number b_Store_number
  walk_at "dl"
  refine ⟨_, rfl, _, rfl, .inr ⟨_, rfl, pairs_snd (by simp) (by simp) (by decide) ⟨_, rfl, q⟩⟩⟩
/-- Store.__str__ -/
def b_Store_str : SM :=
  (sRet (mJoined [(mC (.str "store of ")), (mFmt (mProp "Store" c_Store_number (mVar 0))), (mC (.str " rooms, ")), (mFmt (mB fLen (mCons (mFld "Store" (mVar 0) "own_runs") mNil))), (mC (.str " runs"))]))
def m_Store_str : FM := mFun 1 1 b_Store_str
def c_Store_str : FM := fun ds Q _ => ∃ R : Runs, ds = [storeD R] ∧ 0 ≤ numT R ∧ numT R < 10 ^ 200 ∧ R.length ≤ 100 ∧ Q (.str (strR R))
theorem c_Store_str_ok : ∀ ds Q E, c_Store_str ds Q E → m_Store_str ds Q E := by
  rintro ds Q E ⟨L, rfl, n0, n1, hl, q⟩
  unfold m_Store_str b_Store_str
  walk_at "dl"
  have c240 : (10 : Int) ^ 200 < 10 ^ 240 := by decide +kernel
  have a := decS_le n0 (by omega)
  have b := decS_le (n := (L.length : Int)) (by omega) (Int.lt_of_le_of_lt (show (L.length : Int) ≤ 100 by omega) (by decide +kernel))
  unfold decS at a b
  rw [e_emp]
  have l1 : ("store of " : Str).length = 9 := by decide +kernel
  have l2 : (" rooms, " : Str).length = 8 := by decide +kernel
  have l3 : (" runs" : Str).length = 5 := by decide +kernel
  refine ⟨by omega, _, rfl, L, rfl, .inr ⟨_, rfl, log_small n0 n1, by rw [Str.length_append]; omega, by rw [Str.length_append, Str.length_append]; omega, _, rfl, _, rfl, .inr ⟨_, rfl, ?_, ?_, ?_, ?_⟩⟩⟩
  · rw [List.length_map]
    exact log_small (by omega) (Int.lt_of_le_of_lt (show (L.length : Int) ≤ 100 by omega) (by decide +kernel))
  · rw [List.length_map, Str.length_append, Str.length_append, Str.length_append]
    omega
  · rw [List.length_map, Str.length_append, Str.length_append, Str.length_append, Str.length_append]
    omega
  · rw [List.length_map]
    exact q
/-- Store.runs -/
def b_Store_runs : SM :=
  (sRet (mFld "Store" (mVar 0) "own_runs"))
def m_Store_runs : FM := mFun 1 1 b_Store_runs
def c_Store_runs : FM := fun ds Q _ => ∃ L : Runs, ds = [storeD L] ∧ Q (.tup (L.map pairD))
theorem c_Store_runs_ok : ∀ ds Q E, c_Store_runs ds Q E → m_Store_runs ds Q E := by
  rintro ds Q E ⟨L, rfl, q⟩
  unfold m_Store_runs b_Store_runs
  walk_at "dl"
  exact ⟨_, rfl, _, rfl, q⟩
/-- Store.total -/
def b_Store_total : SM :=
  (sRet (mB fSum (mCons (mComp [1, 2] (mSeq (mFld "Store" (mVar 0) "own_runs")) (gT 2 (gsCons (gN 1) (gsCons (gN 2) gsNil))) mYes (mBin fMul (mVar 1) (mVar 2))) mNil)))
def m_Store_total : FM := mFun 1 3 b_Store_total
def c_Store_total : FM := fun ds Q _ => ∃ R : Runs, ds = [storeD R] ∧ (∀ p, p ∈ R → IntMulOk p.1 p.2) ∧ Q (.int (totT R))
theorem c_Store_total_ok : ∀ ds Q E, c_Store_total ds Q E → m_Store_total ds Q E := by
  rintro ds Q E ⟨L, rfl, hm, q⟩
  unfold m_Store_total b_Store_total
  walk_at "dl"
  refine ⟨_, rfl, _, rfl, .inr ⟨_, rfl, ?_⟩⟩
  refine compL_map (fun d => .int ((unpairD d).1 * (unpairD d).2)) (fun d hd R S hR => ?_) ?_
  · obtain ⟨p, hp, rfl⟩ := List.mem_map.mp hd
    refine ⟨_, rfl, rfl, _, _, rfl, _, _, rfl, rfl, ?_⟩
    walk_at "dl"
    exact ⟨hm p hp, hR⟩
  · exact ⟨L.map fun p : Int × Int => p.1 * p.2, by rw [List.nil_append, List.map_map, List.map_map] <;> rfl, q⟩
/-- require_size -/
def b_require_size : SM :=
  (sIf (mNotT (mTest (mCall c_is_size (mCons (mVar 0) mNil))))
  (sRaise "InvalidNumber" "value" (mVar 0))
  sNext)
def m_require_size : FM := mFun 1 1 b_require_size
def c_require_size : FM := fun ds Q E => ∃ d, ds = [d] ∧ okB owns d ∧ if sizD d = true then Q .none else E (numE d)
theorem c_require_size_ok : ∀ ds Q E, c_require_size ds Q E → m_require_size ds Q E := by
  rintro ds Q E ⟨d, rfl, ht, q⟩
  unfold m_require_size b_require_size
  walk_at "dl"
  refine isZO ht ⟨_, rfl, ?_⟩
  cases h : sizD d with
  | true =>
    rw [h, if_pos rfl] at q
    rw [if_neg (by decide)]
    exact q
  | false =>
    rw [h, if_neg (by decide)] at q
    rw [if_pos (by decide)]
    exact q
/-- space_in -/
def b_space_in : SM :=
  (sRet (mB fSum (mCons (mComp [2, 3] (mSeq (mVar 0)) (gT 2 (gsCons (gN 2) (gsCons (gN 3) gsNil))) mYes (mBin fMul (mVar 3) (mBin fDiv (mVar 2) (mVar 1)))) mNil)))
def m_space_in : FM := mFun 2 4 b_space_in
def c_space_in : FM := fun ds Q _ => ∃ (L : Runs) (s : Int), (ds = [.tup (L.map pairD), .int s] ∨ ds = [.list (L.map pairD), .int s]) ∧ 1 ≤ s ∧ s < 10 ^ 200 ∧ (∀ p, p ∈ L → IntMulOk p.2 (p.1 / s)) ∧ Q (.int (spaceT L s))
theorem c_space_in_ok : ∀ ds Q E, c_space_in ds Q E → m_space_in ds Q E := by
  rintro ds Q E ⟨L, s, hd0, hs, hs', hm, q⟩
  unfold m_space_in b_space_in
  rcases hd0 with rfl | rfl
  all_goals
    walk_at "dl"
    refine compL_map (fun d => match d with | .tup [.int x, .int y] => .int (y * (x / s)) | _ => .none) (fun d hd R S hR => ?_) ?_
    · obtain ⟨p, hp, rfl⟩ := List.mem_map.mp hd
      refine ⟨_, rfl, rfl, _, _, rfl, _, _, rfl, rfl, ?_⟩
      walk_at "dl"
      exact ⟨div_ok' hs hs', hm p hp, hR⟩
    · exact ⟨L.map fun p : Int × Int => p.2 * (p.1 / s), by rw [List.nil_append, List.map_map, List.map_map] <;> rfl, q⟩
/-- Store.units -/
def b_Store_units : SM :=
  (sSeq (sExpr (mCall c_require_size (mCons (mVar 1) mNil)))
  (sRet (mCall c_space_in (mCons (mFld "Store" (mVar 0) "own_runs") (mCons (mVar 1) mNil)))))
def m_Store_units : FM := mFun 2 2 b_Store_units
def c_Store_units : FM := fun ds Q E => ∃ (L : Runs) (d : D), ds = [storeD L, d] ∧ okB owns d ∧ (∀ s, 1 ≤ s → ∀ p, p ∈ L → IntMulOk p.2 (p.1 / s)) ∧ if sizD d = true then Q (.int (spaceT L (iOf d))) else E (numE d)
theorem c_Store_units_ok : ∀ ds Q E, c_Store_units ds Q E → m_Store_units ds Q E := by
  rintro ds Q E ⟨L, d, rfl, ht, hm, q⟩
  unfold m_Store_units b_Store_units
  walk_at "dl"
  refine ⟨d, rfl, ht, ?_⟩
  cases hd : sizD d with
  | false =>
    rw [hd, if_neg (by decide)] at q
    rw [if_neg (by decide)]
    exact q
  | true =>
    rw [hd, if_pos rfl] at q
    rw [if_pos rfl]
    obtain ⟨s, rfl, s0, s1⟩ := siz_int hd
    exact ⟨_, rfl, _, rfl, L, s, .inl rfl, s0, s1, hm s s0, q⟩
/-- _law_dice -/
def b_law_dice : SM :=
  (sSeq (sSet 2 (mIf (mCmpT fLt (mVar 1) (mB fLen (mCons (mVar 0) mNil))) (mB fInt (mCons (mBin fIx (mVar 0) (mVar 1)) mNil)) (mBin fAdd (mBin fMul (mC (.int 71)) (mVar 1)) (mC (.int 29)))))
  (sSeq (sSet 3 (mBin fMod (mB fMax2 (mCons (mC (.int 0)) (mCons (mBin fSub (mB fAbs (mCons (mVar 2) mNil)) (mBin fPow (mC (.int 10)) (mC (.int 15)))) mNil))) (mBin fMul (mBin fPow (mC (.int 10)) (mC (.int 60))) (mBin fPow (mC (.int 10)) (mC (.int 60))))))
  (sRet (mDice (mLst (mCons (mVar 3) (mCons (mBin fAdd (mBin fAdd (mBin fAdd (mBin fMul (mBin fMod (mB fAbs (mCons (mVar 2) mNil)) (mC (.int 1152921504606846877))) (mC (.int 43))) (mBin fMul (mC (.int 1009)) (mVar 1))) (mBin fMul (mC (.int 31)) (mB fInt (mCons (mCmp fLt (mVar 2) (mC (.int 0))) mNil)))) (mC (.int 11))) (mCons (mC (.int 0)) mNil))))))))
def m_law_dice : FM := mFun 2 4 b_law_dice
def c_law_dice : FM := fun ds Q _ => ∃ (ns : List Int) (n : Nat), ds = [.script ns, .int n] ∧ Q .dice
theorem c_law_dice_ok : ∀ ds Q E, c_law_dice ds Q E → m_law_dice ds Q E := by
  rintro ds Q E ⟨ns, n, rfl, q⟩
  unfold m_law_dice b_law_dice
  walk_at "dl"
  split
  · rename_i h
    obtain ⟨x, ex, _⟩ := atI_of (xs := ns) (i := (n : Int)) (by omega) (by simpa using h)
    exact ⟨x, ex, pow_ok1, pow_ok2, pow_ok2, mul_big, by decide, mul_r (by decide) (by decide), mul_l (by decide) (by decide), mul_l (by decide) (by decide), ⟨_, _, _, rfl, rfl, rfl⟩, q⟩
  · exact ⟨mul_l (by decide) (by decide), pow_ok1, pow_ok2, pow_ok2, mul_big, by decide, mul_r (by decide) (by decide), mul_l (by decide) (by decide), mul_l (by decide) (by decide), ⟨_, _, _, rfl, rfl, rfl⟩, q⟩
/-- Store.__eq__ -/
def b_Store_eq : SM :=
  (sRet (mAnd (mIsiC owns "Store" (mVar 1)) (mCmp fEq (mFld "Store" (mVar 0) "own_runs") (mFld "Store" (mVar 1) "own_runs"))))
def m_Store_eq : FM := mFun 2 2 b_Store_eq
def c_Store_eq : FM := fun ds Q _ => ∃ (R : Runs) (d : D), ds = [storeD R, d] ∧ ((d.tyn.isSome = true ∧ Q (.bool false)) ∨ ∃ S : Runs, d = storeD S ∧ Q (.bool (decide (R = S))))
theorem c_Store_eq_ok : ∀ ds Q E, c_Store_eq ds Q E → m_Store_eq ds Q E := by
  rintro ds Q E ⟨R, d, rfl, h⟩
  unfold m_Store_eq b_Store_eq
  rcases h with ⟨ht, q⟩ | ⟨S, rfl, q⟩
  · walk_at "dl"
    refine ⟨.inl ht, _, rfl, ?_⟩
    rw [isCls_store ht, if_neg (by decide)]
    exact q
  · walk_at "dl"
    refine ⟨.inr ⟨_, _, rfl, by decide⟩, _, rfl, ?_⟩
    rw [if_pos (by rfl)]
    exact ⟨_, rfl, _, rfl, _, rfl, _, rfl, eq_runs R S q⟩
/-- Store.rooms -/
def b_Store_rooms : SM :=
  (sSeq (sSetM 1 (mC (.dict [])))
  (sSeq (sFor (mSeq (mB fSortP (mCons (mFld "Store" (mVar 0) "own_runs") mNil))) (gT 2 (gsCons (gN 2) (gsCons (gN 3) gsNil)))
  (sPut 1 (mVar 2) (mBin fAdd (mDGet2 (mMut 1) (mVar 2) (mC (.int 0))) (mVar 3))))
  (sFrz 1 (sRet (mVar 1)))))
def m_Store_rooms : FM := mFun 1 4 b_Store_rooms
def c_Store_rooms : FM := fun ds Q _ => ∃ R : Runs, ds = [storeD R] ∧ R.length ≤ 100 ∧ Q (.dict (tabD (roomsT R)))
theorem c_Store_rooms_ok : ∀ ds Q E, c_Store_rooms ds Q E → m_Store_rooms ds Q E := by
  rintro ds Q E ⟨L, rfl, hl, q⟩
  unfold m_Store_rooms b_Store_rooms
  walk_at "dl"
  have lm : (sortP L).length = L.length := (sortP_perm L).length_eq
  refine ⟨_, rfl, _, rfl, L, .inr rfl, .inl ⟨_, rfl, ?_⟩⟩
  refine forL_inv (fun i δ => ∃ (T : Tab) (a b : DV), δ = [DV.v (storeD L), .m (.dict (tabD T)), a, b] ∧ T = addT [] ((sortP L).take i) ∧ T.length ≤ i) (fun i d δ N hd ⟨T, a, b, hδ, hT, hl'⟩ hN => ?_) ⟨[], _, _, rfl, rfl, Nat.le_refl _⟩ fun δ ⟨T, a, b, hδ, hT, hl'⟩ => ?_
  · subst hδ
    rw [List.getElem?_map, Option.map_eq_some_iff] at hd
    obtain ⟨p, hp, rfl⟩ := hd
    have hi := (List.getElem?_eq_some_iff.mp hp).1
    have ep := (List.getElem?_eq_some_iff.mp hp).2
    have nT : (keysT T).Nodup := by rw [hT]; exact (addT_cnt (M := (sortP L).take i) (L := []) List.nodup_nil).1
    refine ⟨_, rfl, rfl, _, _, rfl, _, _, rfl, rfl, ?_⟩
    walk_at "dl"
    rw [valD_get]
    walk_at "dl"
    rw [tab_len, inc_put nT]
    have l := add_len (L := T) (z := p.1) (n := p.2)
    refine ⟨by omega, hN _ ⟨incT T p.1 p.2, _, _, rfl, ?_, by omega⟩⟩
    rw [hT, List.take_succ_eq_append_getElem hi, ep, addT_snoc]
  · subst hδ
    rw [List.length_map, List.take_length] at hT
    subst hT
    walk_at "dl"
    exact q
/-- _law_great -/
def b_law_great : SM :=
  (sSeq (sPar 2 3 (mCons (mCall mRoll (mCons (mVar 0) (mCons (mC (.int 4)) mNil))) (mCons (mC (.int 0)) mNil)))
  (sSeq (sFor (mRange1 (mCons (mIf (mCmpT fEq (mVar 2) (mC (.int 0))) (mC (.int 6)) (mC (.int 1))) mNil)) (gN 4)
  (sSet 3 (mBin fAdd (mBin fMul (mVar 3) (mC (.int 100003))) (mCall mRoll (mCons (mVar 0) (mCons (mC (.int 100003)) mNil))))))
  (sRet (mBin fAdd (mVar 1) (mIf (mCmpT fLt (mVar 2) (mC (.int 2))) (mVar 3) (mBin fMod (mVar 3) (mC (.int 7))))))))
def m_law_great : FM := mFun 2 5 b_law_great
def c_law_great : FM := fun ds Q _ => ∃ i : Int, ds = [.dice, .int i] ∧ ∀ j, i ≤ j → j < i + 10 ^ 40 → Q (.int j)
theorem c_law_great_ok : ∀ ds Q E, c_law_great ds Q E → m_law_great ds Q E := by
  rintro ds Q E ⟨i, rfl, q⟩
  unfold m_law_great b_law_great
  walk_at "dl"
  refine ⟨_, rfl, by decide, by decide, fun r r0 r1 => ?_⟩
  walk_at "dl"
  have fin : ∀ (f : Int) (δ : List DV), 0 ≤ f → f < 10 ^ 40 → ∀ w y : DV, q = q → (if decide (r < 2) = true then Q (.int (i + f)) else Q (.int (i + f % 7))) := fun f δ f0 f1 w y _ => by
    split
    · exact q _ (by omega) (by omega)
    · have := Int.emod_nonneg f (show (7 : Int) ≠ 0 by decide)
      have := Int.emod_lt_of_pos f (show (0 : Int) < 7 by decide)
      have b : (7 : Int) < 10 ^ 40 := by decide +kernel
      generalize (10 : Int) ^ 40 = C at *
      exact q _ (by omega) (by omega)
  split
  all_goals
    refine forL_inv (fun k δ => ∃ f x, δ = [DV.v .dice, .v (.int i), .v (.int r), .v (.int f), x] ∧ 0 ≤ f ∧ f < 100003 ^ k) (fun k d δ N hd ⟨f, x, hδ, f0, f1⟩ hN => ?_) ⟨0, _, rfl, by decide, by decide⟩ fun δ ⟨f, x, hδ, f0, f1⟩ => ?_
    · subst hδ
      walk_at "dl"
      refine ⟨mul_r (by decide) (by decide), _, rfl, by decide, by decide, fun t t0 t1 => ?_⟩
      walk_at "dl"
      refine hN _ ⟨_, _, rfl, by omega, ?_⟩
      have e : (100003 : Int) ^ (k + 1) = 100003 ^ k * 100003 := Int.pow_succ _ _
      rw [e]
      generalize (100003 : Int) ^ k = B at *
      omega
    · subst hδ
      walk_at "dl"
      refine fin f [] f0 ?_ x x rfl
      refine Int.lt_trans f1 ?_
      decide +kernel
/-- _law_pick -/
def b_law_pick : SM :=
  (sRet (mBin fIx (mVar 1) (mCall mRoll (mCons (mVar 0) (mCons (mB fLen (mCons (mVar 1) mNil)) mNil)))))
def m_law_pick : FM := mFun 2 2 b_law_pick
def c_law_pick : FM := fun ds Q _ => ∃ xs : List D, (ds = [.dice, .list xs] ∨ ds = [.dice, .tup xs]) ∧ 0 < xs.length ∧ xs.length < 1073741824 ∧ ∀ x, x ∈ xs → Q x
theorem c_law_pick_ok : ∀ ds Q E, c_law_pick ds Q E → m_law_pick ds Q E := by
  rintro ds Q E ⟨xs, hd, h0, h1, q⟩
  unfold m_law_pick b_law_pick
  rcases hd with rfl | rfl
  all_goals
    walk_at "dl"
    refine ⟨_, rfl, by omega, by omega, fun r r0 r1 => ?_⟩
    obtain ⟨x, ex, hx⟩ := atI_of r0 r1
    exact ⟨x, ex, q x hx⟩
/-- _law_great_store -/
def b_law_great_store : SM :=
  (sSeq (sSetM 2 (mLst mNil))
  (sSeq (sFor (mRange1 (mCons (mBin fAdd (mC (.int 1)) (mCall mRoll (mCons (mVar 0) (mCons (mC (.int 5)) mNil)))) mNil)) (gN 3)
  (sSeq (sSet 4 (mBin fAdd (mBin fMul (mCall c_law_pick (mCons (mVar 0) (mCons (mVar 1) mNil))) (mBin fAdd (mC (.int 1)) (mCall mRoll (mCons (mVar 0) (mCons (mC (.int 4)) mNil))))) (mCall mRoll (mCons (mVar 0) (mCons (mCall c_law_pick (mCons (mVar 0) (mCons (mLst (mCons (mC (.int 1)) (mCons (mC (.int 3)) (mCons (mC (.int 9)) mNil)))) mNil))) mNil)))))
    (sApp 2 (mTup (mCons (mBin fAdd (mVar 4) (mBin fMul (mCall mRoll (mCons (mVar 0) (mCons (mC (.int 2)) mNil))) (mCall c_law_pick (mCons (mVar 0) (mCons (mVar 1) mNil))))) (mCons (mCall c_law_great (mCons (mVar 0) (mCons (mC (.int 1)) mNil))) mNil))))))
  (sFrz 2 (sRet (mVar 2)))))
def m_law_great_store : FM := mFun 2 5 b_law_great_store
def c_law_great_store : FM := fun ds Q _ => ∃ ns : List Int, ds = [.dice, .tup (ns.map .int)] ∧ ns ≠ [] ∧ ns.length ≤ 12 ∧ (∀ i, i ∈ ns → 1 ≤ i ∧ i < 10 ^ 30) ∧ ∀ L : Runs, 1 ≤ L.length → L.length ≤ 5 → (∀ p, p ∈ L → (1 ≤ p.1 ∧ p.1 < 10 ^ 32) ∧ 1 ≤ p.2 ∧ p.2 ≤ 10 ^ 40) → Q (.list (L.map pairD))
theorem c_law_great_store_ok : ∀ ds Q E, c_law_great_store ds Q E → m_law_great_store ds Q E := by
  rintro ds Q E ⟨ns, rfl, hne, hl, hb, q⟩
  unfold m_law_great_store b_law_great_store
  walk_at "dl"
  refine ⟨_, rfl, by decide, by decide, fun r r0 r1 => ?_⟩
  walk_at "dl"
  refine ⟨by omega, by omega, ?_⟩
  have hr5 : (rangeD 0 (1 + r).toNat).length ≤ 5 := by rw [rangeD_length]; omega
  have hpos : 0 < ns.length := List.length_pos_iff.mpr hne
  have pick : ∀ {R : D → Prop}, (∀ k, 1 ≤ k ∧ k < 10 ^ 30 → R (.int k)) → ∀ x, x ∈ ns.map D.int → R x := fun h x hx => by
    obtain ⟨k, hk, rfl⟩ := List.mem_map.mp hx
    exact h k (hb k hk)
  refine forL_inv (fun i δ => ∃ (L : Runs) (x y : DV), δ = [DV.v .dice, .v (.tup (ns.map .int)), .m (.list (L.map pairD)), x, y] ∧ L.length = i ∧ ∀ p, p ∈ L → (1 ≤ p.1 ∧ p.1 < 10 ^ 32) ∧ 1 ≤ p.2 ∧ p.2 ≤ 10 ^ 40) (fun i d δ N hd ⟨L, x, y, hδ, h1, h2⟩ hN => ?_) ⟨[], .u, .u, rfl, rfl, fun p hp => by cases hp⟩ fun δ ⟨L, x, y, hδ, h1, h2⟩ => ?_
  · subst hδ
    have hi : i < 5 := by
      have := (List.getElem?_eq_some_iff.mp hd).1
      omega
    walk_at "dl"
    refine ⟨_, .inr rfl, by rw [List.length_map]; exact hpos, by rw [List.length_map]; omega, pick fun k hk => ⟨_, rfl, by decide, by decide, fun t t0 t1 => ?_⟩⟩
    walk_at "dl"
    refine ⟨mul_r (by omega) (by omega), _, .inl rfl, by decide, by decide, fun o ho => ?_⟩
    have : ∃ z : Int, o = .int z ∧ 1 ≤ z ∧ z ≤ 9 := by
      simp only [List.mem_cons, List.not_mem_nil, or_false] at ho
      rcases ho with rfl | rfl | rfl
      · exact ⟨1, rfl, by decide⟩
      · exact ⟨3, rfl, by decide⟩
      · exact ⟨9, rfl, by decide⟩
    obtain ⟨z, rfl, z0, z1⟩ := this
    refine ⟨z, rfl, by omega, by omega, fun u u0 u1 => ?_⟩
    walk_at "dl"
    refine ⟨_, rfl, by decide, by decide, fun v v0 v1 => ⟨_, .inr rfl, by rw [List.length_map]; exact hpos, by rw [List.length_map]; omega, pick fun m hm => ?_⟩⟩
    walk_at "dl"
    refine ⟨mul_l (by omega) (by omega), 1, rfl, fun j j0 j1 => ?_⟩
    walk_at "dl"
    rw [List.length_map]
    refine ⟨by omega, hN _ ⟨L ++ [(k * (1 + t) + u + v * m, j)], _, _, by rw [List.map_append] <;> rfl, by rw [List.length_append, List.length_singleton]; omega, fun p hp => ?_⟩⟩
    rcases List.mem_append.mp hp with w | w
    · exact h2 p w
    · rw [List.mem_singleton.mp w]
      have e1 : k * (1 + t) ≤ k * 4 := Int.mul_le_mul_of_nonneg_left (by omega) (by omega)
      have e2 : k * 1 ≤ k * (1 + t) := Int.mul_le_mul_of_nonneg_left (by omega) (by omega)
      have e3 : 0 ≤ v * m := Int.mul_nonneg (by omega) (by omega)
      have e4 : v * m ≤ 1 * m := Int.mul_le_mul_of_nonneg_right (by omega) (by omega)
      have b1 : (10 : Int) ^ 30 * 5 + 9 < 10 ^ 32 := by decide +kernel
      generalize (10 : Int) ^ 40 = A at *
      generalize (10 : Int) ^ 30 = A3 at *
      generalize (10 : Int) ^ 32 = B at *
      refine ⟨⟨?_, ?_⟩, j0, ?_⟩
      · show 1 ≤ k * (1 + t) + u + v * m; omega
      · show k * (1 + t) + u + v * m < B; omega
      · show j ≤ A; omega
  · subst hδ
    walk_at "dl"
    rw [rangeD_length] at h1
    exact q L (by omega) (by omega) h2
/-- _law_made_store -/
def b_law_made_store : SM :=
  (sSeq (sSet 1 (mBin fAdd (mB fList (mCons (mVar 0) mNil)) (mRep (mLst (mCons (mC .none) mNil)) (mC (.int 8)))))
  (sSeq (sAsg (mSlice (mVar 1) mNoPart (mPart (mC (.int 8)))) (gL 8 (gsCons (gN 2) (gsCons (gN 3) (gsCons (gN 4) (gsCons (gN 5) (gsCons (gN 6) (gsCons (gN 7) (gsCons (gN 8) (gsCons (gN 9) gsNil))))))))))
  (sSeq (sIf (mCmpT fEq (mVar 0) (mLst mNil))
  (sRet (mMake "Store" c_Store_init mNil))
  sNext)
  (sSeq (sIf (mCmpT fEq (mB fLen (mCons (mVar 0) mNil)) (mC (.int 1)))
  (sRet (mMake "Store" c_Store_init (mCons (mVar 2) mNil)))
  sNext)
  (sSeq (sIf (mCmpT fEq (mB fLen (mCons (mVar 0) mNil)) (mC (.int 2)))
  (sRet (mMake "Store" c_Store_init (mCons (mVar 2) (mCons (mVar 3) mNil))))
  sNext)
  (sSeq (sIf (mCmpT fEq (mB fLen (mCons (mVar 0) mNil)) (mC (.int 3)))
  (sRet (mMake "Store" c_Store_init (mCons (mVar 2) (mCons (mVar 3) (mCons (mVar 4) mNil)))))
  sNext)
  (sSeq (sIf (mCmpT fEq (mB fLen (mCons (mVar 0) mNil)) (mC (.int 4)))
  (sRet (mMake "Store" c_Store_init (mCons (mVar 2) (mCons (mVar 3) (mCons (mVar 4) (mCons (mVar 5) mNil))))))
  sNext)
  (sSeq (sIf (mCmpT fEq (mB fLen (mCons (mVar 0) mNil)) (mC (.int 5)))
  (sRet (mMake "Store" c_Store_init (mCons (mVar 2) (mCons (mVar 3) (mCons (mVar 4) (mCons (mVar 5) (mCons (mVar 6) mNil)))))))
  sNext)
  (sSeq (sIf (mCmpT fEq (mB fLen (mCons (mVar 0) mNil)) (mC (.int 6)))
  (sRet (mMake "Store" c_Store_init (mCons (mVar 2) (mCons (mVar 3) (mCons (mVar 4) (mCons (mVar 5) (mCons (mVar 6) (mCons (mVar 7) mNil))))))))
  sNext)
  (sSeq (sIf (mCmpT fEq (mB fLen (mCons (mVar 0) mNil)) (mC (.int 7)))
  (sRet (mMake "Store" c_Store_init (mCons (mVar 2) (mCons (mVar 3) (mCons (mVar 4) (mCons (mVar 5) (mCons (mVar 6) (mCons (mVar 7) (mCons (mVar 8) mNil)))))))))
  sNext)
  (sRet (mMake "Store" c_Store_init (mCons (mVar 2) (mCons (mVar 3) (mCons (mVar 4) (mCons (mVar 5) (mCons (mVar 6) (mCons (mVar 7) (mCons (mVar 8) (mCons (mVar 9) mNil))))))))))))))))))))
def m_law_made_store : FM := mFun 1 10 b_law_made_store
def c_law_made_store : FM := fun ds Q _ => ∃ L : Runs, ds = [.list (L.map pairD)] ∧ L.length ≤ 8 ∧ (∀ p, p ∈ L → (1 ≤ p.1 ∧ p.1 < 10 ^ 200) ∧ 1 ≤ p.2 ∧ p.2 < 10 ^ 200) ∧ Q (storeD (mergeT L))
theorem c_law_made_store_ok : ∀ ds Q E, c_law_made_store ds Q E → m_law_made_store ds Q E := by
  rintro ds Q E ⟨L, rfl, hl, hb, q⟩
  unfold m_law_made_store b_law_made_store
  have e0 : (D.list []).fine = true := (fineN_list (n := 0) (ds := []) fun d hd => by cases hd).fine (by decide)
  match L, hl, hb, q with
  | [], _, hb, q =>
    walk_at "dl"
    refine ⟨_, 8, rfl, rfl, by decide, by decide, by decide, by simp, rfl, _, _, rfl, _, _, rfl, _, _, rfl, _, _, rfl, _, _, rfl, _, _, rfl, _, _, rfl, _, _, rfl,  rfl, (fineR []).fine (by decide), e0, ?_⟩
    rw [eqD_list, show eqAll [] [] = true from rfl]
    show if (true : Bool) = true then _ else _
    rw [if_pos rfl]
    exact init_ok (M := []) (by simp) hb (Nat.le_trans (mergeT_len _) (by simp)) ⟨rfl, q⟩
  | [a], _, hb, q =>
    walk_at "dl"
    refine ⟨_, 8, rfl, rfl, by decide, by decide, by decide, by simp, rfl, _, _, rfl, _, _, rfl, _, _, rfl, _, _, rfl, _, _, rfl, _, _, rfl, _, _, rfl, _, _, rfl,  rfl, (fineR [a]).fine (by decide), e0, ?_⟩
    rw [eqD_list, show eqAll [pairD a] [] = false from rfl]
    show if (false : Bool) = true then _ else _
    rw [if_neg (by decide), if_pos (by decide)]
    exact init_ok (M := [a]) (by simp) hb (Nat.le_trans (mergeT_len _) (by simp)) ⟨rfl, q⟩
  | [a, b], _, hb, q =>
    walk_at "dl"
    refine ⟨_, 8, rfl, rfl, by decide, by decide, by decide, by simp, rfl, _, _, rfl, _, _, rfl, _, _, rfl, _, _, rfl, _, _, rfl, _, _, rfl, _, _, rfl, _, _, rfl,  rfl, (fineR [a, b]).fine (by decide), e0, ?_⟩
    rw [eqD_list, show eqAll [pairD a, pairD b] [] = false from rfl]
    show if (false : Bool) = true then _ else _
    rw [if_neg (by decide), if_neg (by decide), if_pos (by decide)]
    exact init_ok (M := [a, b]) (by simp) hb (Nat.le_trans (mergeT_len _) (by simp)) ⟨rfl, q⟩
  | [a, b, c], _, hb, q =>
    walk_at "dl"
    refine ⟨_, 8, rfl, rfl, by decide, by decide, by decide, by simp, rfl, _, _, rfl, _, _, rfl, _, _, rfl, _, _, rfl, _, _, rfl, _, _, rfl, _, _, rfl, _, _, rfl,  rfl, (fineR [a, b, c]).fine (by decide), e0, ?_⟩
    rw [eqD_list, show eqAll [pairD a, pairD b, pairD c] [] = false from rfl]
    show if (false : Bool) = true then _ else _
    rw [if_neg (by decide), if_neg (by decide), if_neg (by decide), if_pos (by decide)]
    exact init_ok (M := [a, b, c]) (by simp) hb (Nat.le_trans (mergeT_len _) (by simp)) ⟨rfl, q⟩
  | [a, b, c, d], _, hb, q =>
    walk_at "dl"
    refine ⟨_, 8, rfl, rfl, by decide, by decide, by decide, by simp, rfl, _, _, rfl, _, _, rfl, _, _, rfl, _, _, rfl, _, _, rfl, _, _, rfl, _, _, rfl, _, _, rfl,  rfl, (fineR [a, b, c, d]).fine (by decide), e0, ?_⟩
    rw [eqD_list, show eqAll [pairD a, pairD b, pairD c, pairD d] [] = false from rfl]
    show if (false : Bool) = true then _ else _
    rw [if_neg (by decide), if_neg (by decide), if_neg (by decide), if_neg (by decide), if_pos (by decide)]
    exact init_ok (M := [a, b, c, d]) (by simp) hb (Nat.le_trans (mergeT_len _) (by simp)) ⟨rfl, q⟩
  | [a, b, c, d, e], _, hb, q =>
    walk_at "dl"
    refine ⟨_, 8, rfl, rfl, by decide, by decide, by decide, by simp, rfl, _, _, rfl, _, _, rfl, _, _, rfl, _, _, rfl, _, _, rfl, _, _, rfl, _, _, rfl, _, _, rfl,  rfl, (fineR [a, b, c, d, e]).fine (by decide), e0, ?_⟩
    rw [eqD_list, show eqAll [pairD a, pairD b, pairD c, pairD d, pairD e] [] = false from rfl]
    show if (false : Bool) = true then _ else _
    rw [if_neg (by decide), if_neg (by decide), if_neg (by decide), if_neg (by decide), if_neg (by decide), if_pos (by decide)]
    exact init_ok (M := [a, b, c, d, e]) (by simp) hb (Nat.le_trans (mergeT_len _) (by simp)) ⟨rfl, q⟩
  | [a, b, c, d, e, f], _, hb, q =>
    walk_at "dl"
    refine ⟨_, 8, rfl, rfl, by decide, by decide, by decide, by simp, rfl, _, _, rfl, _, _, rfl, _, _, rfl, _, _, rfl, _, _, rfl, _, _, rfl, _, _, rfl, _, _, rfl,  rfl, (fineR [a, b, c, d, e, f]).fine (by decide), e0, ?_⟩
    rw [eqD_list, show eqAll [pairD a, pairD b, pairD c, pairD d, pairD e, pairD f] [] = false from rfl]
    show if (false : Bool) = true then _ else _
    rw [if_neg (by decide), if_neg (by decide), if_neg (by decide), if_neg (by decide), if_neg (by decide), if_neg (by decide), if_pos (by decide)]
    exact init_ok (M := [a, b, c, d, e, f]) (by simp) hb (Nat.le_trans (mergeT_len _) (by simp)) ⟨rfl, q⟩
  | [a, b, c, d, e, f, g], _, hb, q =>
    walk_at "dl"
    refine ⟨_, 8, rfl, rfl, by decide, by decide, by decide, by simp, rfl, _, _, rfl, _, _, rfl, _, _, rfl, _, _, rfl, _, _, rfl, _, _, rfl, _, _, rfl, _, _, rfl,  rfl, (fineR [a, b, c, d, e, f, g]).fine (by decide), e0, ?_⟩
    rw [eqD_list, show eqAll [pairD a, pairD b, pairD c, pairD d, pairD e, pairD f, pairD g] [] = false from rfl]
    show if (false : Bool) = true then _ else _
    rw [if_neg (by decide), if_neg (by decide), if_neg (by decide), if_neg (by decide), if_neg (by decide), if_neg (by decide), if_neg (by decide), if_pos (by decide)]
    exact init_ok (M := [a, b, c, d, e, f, g]) (by simp) hb (Nat.le_trans (mergeT_len _) (by simp)) ⟨rfl, q⟩
  | [a, b, c, d, e, f, g, h], _, hb, q =>
    walk_at "dl"
    refine ⟨_, 8, rfl, rfl, by decide, by decide, by decide, by simp, rfl, _, _, rfl, _, _, rfl, _, _, rfl, _, _, rfl, _, _, rfl, _, _, rfl, _, _, rfl, _, _, rfl,  rfl, (fineR [a, b, c, d, e, f, g, h]).fine (by decide), e0, ?_⟩
    rw [eqD_list, show eqAll [pairD a, pairD b, pairD c, pairD d, pairD e, pairD f, pairD g, pairD h] [] = false from rfl]
    show if (false : Bool) = true then _ else _
    rw [if_neg (by decide), if_neg (by decide), if_neg (by decide), if_neg (by decide), if_neg (by decide), if_neg (by decide), if_neg (by decide), if_neg (by decide)]
    exact init_ok (M := [a, b, c, d, e, f, g, h]) (by simp) hb (Nat.le_trans (mergeT_len _) (by simp)) ⟨rfl, q⟩
/-- _law_merged -/
def b_law_merged : SM :=
  (sSeq (sSetM 1 (mLst mNil))
  (sSeq (sFor (mSeq (mVar 0)) (gT 2 (gsCons (gN 2) (gsCons (gN 3) gsNil)))
  (sIf (mAndT (mCmpT fNe (mMut 1) (mLst mNil)) (mCmpT fEq (mBin fIx (mBin fIx (mMut 1) (mNeg (mC (.int 1)))) (mC (.int 0))) (mVar 2)))
    (sPutL 1 (mNeg (mC (.int 1))) (mTup (mCons (mVar 2) (mCons (mBin fAdd (mBin fIx (mBin fIx (mMut 1) (mNeg (mC (.int 1)))) (mC (.int 1))) (mVar 3)) mNil))))
    (sApp 1 (mTup (mCons (mVar 2) (mCons (mVar 3) mNil))))))
  (sFrz 1 (sRet (mVar 1)))))
def m_law_merged : FM := mFun 1 4 b_law_merged
def c_law_merged : FM := fun ds Q _ => ∃ L : Runs, ds = [.list (L.map pairD)] ∧ L.length ≤ 1000 ∧ Q (.list ((mergeT L).map pairD))
theorem c_law_merged_ok : ∀ ds Q E, c_law_merged ds Q E → m_law_merged ds Q E := by
  rintro ds Q E ⟨L, rfl, hl, q⟩
  have run : ∀ (z : D), forL (gT 2 (gsCons (gN 2) (gsCons (gN 3) gsNil))) (sIf (mAndT (mCmpT fNe (mMut 1) (mLst mNil)) (mCmpT fEq (mBin fIx (mBin fIx (mMut 1) (mNeg (mC (.int 1)))) (mC (.int 0))) (mVar 2)))
      (sPutL 1 (mNeg (mC (.int 1))) (mTup (mCons (mVar 2) (mCons (mBin fAdd (mBin fIx (mBin fIx (mMut 1) (mNeg (mC (.int 1)))) (mC (.int 1))) (mVar 3)) mNil))))
      (sApp 1 (mTup (mCons (mVar 2) (mCons (mVar 3) mNil))))) (L.map pairD) [.v z, .m (.list []), .u, .u] { endK Q E with nx := fun δ => sFrz 1 (sRet (mVar 1)) δ (endK Q E) } := fun z => by
    refine forL_inv (fun i δ => ∃ x y, δ = [DV.v z, .m (.list ((mergeT (L.take i)).map pairD)), x, y]) (fun i d δ N hd ⟨x, y, hδ⟩ hN => ?_) ⟨.u, .u, rfl⟩ fun δ ⟨x, y, hδ⟩ => ?_
    · subst hδ
      rw [List.getElem?_map, Option.map_eq_some_iff] at hd
      obtain ⟨p, hp, rfl⟩ := hd
      have hi := (List.getElem?_eq_some_iff.mp hp).1
      have ht : L.take (i + 1) = L.take i ++ [p] := by rw [List.take_succ_eq_append_getElem hi, (List.getElem?_eq_some_iff.mp hp).2]
      have hm := mergeT_len (L.take i)
      rw [List.length_take] at hm
      have ep : ∀ p : Int × Int, pairD p = .tup [.int p.1, .int p.2] := fun _ => rfl
      rw [ep p]
      walk_at "dl"
      refine ⟨(fineR _).fine (by decide), (fineN_list (n := 0) (ds := []) fun d hd => by cases hd).fine (by decide), ?_⟩
      rw [eqD_list]
      have hN' := hN
      rw [ht, mergeT_snoc] at hN'
      rcases List.eq_nil_or_concat (mergeT (L.take i)) with e | ⟨l, q0, e⟩
      · rw [e] at hN' ⊢
        simp only [List.map_nil, eqAll, Bool.not_true, Bool.false_eq_true, if_false]
        exact ⟨by simp, hN' _ ⟨_, _, rfl⟩⟩
      · rw [List.concat_eq_append] at e
        rw [e, mstep_end] at hN'
        rw [e] at hm ⊢
        rw [List.map_append, List.map_cons, List.map_nil]
        rw [show eqAll (l.map pairD ++ [pairD q0]) [] = false by cases l <;> rfl]
        simp only [Bool.not_false, if_true]
        refine ⟨_, atI_end, ?_⟩
        rw [ep q0]
        walk_at "dl"
        by_cases h : q0.1 = p.1
        · rw [if_pos h] at hN'
          rw [if_pos (by rw [decide_eq_true h])]
          refine ⟨_, atI_end, ?_⟩
          walk_at "dl"
          refine ⟨_, _, rfl, ix_last _ _, hN' _ ⟨.v (.int p.1), .v (.int p.2), ?_⟩⟩
          rw [List.map_append, List.set_append_right _ _ (Nat.le_refl _), Nat.sub_self] <;> rfl
        · rw [if_neg h] at hN'
          rw [if_neg (by rw [decide_eq_true_eq]; exact h)]
          refine ⟨?_, hN' _ ⟨.v (.int p.1), .v (.int p.2), by rw [List.map_append, List.map_append] <;> rfl⟩⟩
          rw [List.length_append, List.length_singleton] at hm
          rw [List.length_append, List.length_map, List.length_singleton]
          omega
    · subst hδ
      rw [List.length_map, List.take_length]
      walk_at "dl"
      exact q
  unfold m_law_merged b_law_merged
  have := run (.list (L.map pairD))
  walk_at "dl"
  exact this
/-- _law_small_store -/
def b_law_small_store : SM :=
  (sSeq (sSetM 3 (mLst mNil))
  (sSeq (sFor (mRange1 (mCons (mBin fAdd (mCall mRoll (mCons (mVar 0) (mCons (mVar 2) mNil))) (mC (.int 1))) mNil)) (gN 4)
  (sApp 3 (mTup (mCons (mBin fAdd (mC (.int 1)) (mCall mRoll (mCons (mVar 0) (mCons (mVar 1) mNil)))) (mCons (mC (.int 1)) mNil)))))
  (sFrz 3 (sSeq (sIf (mCmpT fEq (mCall mRoll (mCons (mVar 0) (mCons (mC (.int 4)) mNil))) (mC (.int 0)))
  (sSetM 3 (mLst (mCons (mTup (mCons (mBin fIx (mBin fIx (mVar 3) (mC (.int 0))) (mC (.int 0))) (mCons (mB fLen (mCons (mVar 3) mNil)) mNil))) mNil)))
  sNext)
  (sFrz 3 (sRet (mIf (mCmpT fGt (mCall mRoll (mCons (mVar 0) (mCons (mC (.int 12)) mNil))) (mC (.int 0))) (mVar 3) (mLst mNil))))))))
def m_law_small_store : FM := mFun 3 5 b_law_small_store
def c_law_small_store : FM := fun ds Q _ => ∃ g m : Int, ds = [.dice, .int g, .int m] ∧ 1 ≤ g ∧ g ≤ 1000000 ∧ 1 ≤ m ∧ m ≤ 6 ∧ ∀ R : Runs, R.length ≤ m.toNat → (∀ p, p ∈ R → 1 ≤ p.1 ∧ p.1 ≤ g ∧ 1 ≤ p.2 ∧ p.2 ≤ m) → (R.map (·.2)).sum ≤ m → Q (.list (R.map pairD))
theorem c_law_small_store_ok : ∀ ds Q E, c_law_small_store ds Q E → m_law_small_store ds Q E := by
  rintro ds Q E ⟨g, m, rfl, g0, g1, m0, m1, q⟩
  unfold m_law_small_store b_law_small_store
  walk_at "dl"
  refine ⟨_, rfl, by omega, by omega, fun r r0 r1 => ?_⟩
  walk_at "dl"
  refine ⟨by omega, by omega, ?_⟩
  refine forL_inv (fun i δ => ∃ (R : Runs) (x : DV), δ = [DV.v .dice, .v (.int g), .v (.int m), .m (.list (R.map pairD)), x] ∧ R.length = i ∧ (∀ p, p ∈ R → 1 ≤ p.1 ∧ p.1 ≤ g ∧ p.2 = 1) ∧ (R.map (·.2)).sum = i) (fun i d δ N hd ⟨R, x, hδ, h1, h2, h3⟩ hN => ?step) ⟨[], .u, rfl, rfl, (fun p hp => by cases hp), rfl⟩ fun δ ⟨R, x, hδ, h1, h2, h3⟩ => ?fin
  case step =>
    subst hδ
    have hi : i < 10 := by
      have := (List.getElem?_eq_some_iff.mp hd).1
      rw [rangeD_length] at this
      omega
    walk_at "dl"
    refine ⟨_, rfl, by omega, by omega, fun c c0 c1 => ?_⟩
    walk_at "dl"
    rw [List.length_map]
    refine ⟨by omega, hN _ ⟨R ++ [(1 + c, 1)], _, by rw [List.map_append] <;> rfl, by rw [List.length_append, List.length_singleton, h1], fun p hp => ?_, ?_⟩⟩
    · rcases List.mem_append.mp hp with z | z
      · exact h2 p z
      · rw [List.mem_singleton.mp z]
        exact ⟨by show 1 ≤ 1 + c; omega, by show 1 + c ≤ g; omega, rfl⟩
    · rw [List.map_append, List.sum_append, h3] <;> rfl
  case fin =>
    subst hδ
    rw [rangeD_length] at h1 h3
    walk_at "dl"
    have fin : ∀ R : Runs, R.length ≤ m.toNat → (∀ p, p ∈ R → 1 ≤ p.1 ∧ p.1 ≤ g ∧ 1 ≤ p.2 ∧ p.2 ≤ m) → (R.map (·.2)).sum ≤ m → mRoll [D.dice, D.int 12] (fun x => fCmp (fun i j => decide (j < i)) (fun i j => decide (j < i)) x (D.int 0) fun c => if c = true then Q (D.list (R.map pairD)) else Q (D.list [])) fun er => E er := fun R a1 a2 a3 => by
      refine ⟨_, rfl, by omega, by omega, fun c c0 c1 => ?_⟩
      show if decide (0 < c) = true then _ else _
      split
      · exact q R a1 a2 a3
      · exact q [] (Nat.zero_le _) (fun p hp => by cases hp) (by show (0 : Int) ≤ m; omega)
    refine ⟨_, rfl, by omega, by omega, fun c c0 c1 => ?_⟩
    walk_at "dl"
    split
    · cases R with
      | nil => rw [List.length_nil] at h1; omega
      | cons p R =>
        have pb := h2 p List.mem_cons_self
        refine ⟨pairD p, atI_nat (j := 0) rfl, ?_⟩
        show fIx (.tup [.int p.1, .int p.2]) (.int 0) _
        walk_at "dl"
        rw [List.length_map]
        refine fin [(p.1, (((p :: R).length : Nat) : Int))] (by show 1 ≤ _; omega) (fun x hx => ?_) ?_
        · rw [List.mem_singleton.mp hx]
          exact ⟨pb.1, pb.2.1, by show (1 : Int) ≤ ((p :: R).length : Nat); rw [List.length_cons]; omega, by show (((p :: R).length : Nat) : Int) ≤ m; omega⟩
        · show (((p :: R).length : Nat) : Int) + 0 ≤ m
          omega
    · refine fin R (by omega) (fun p hp => ?_) (by omega)
      have := h2 p hp
      omega
/-- Store.__contains__ -/
def b_Store_contains : SM :=
  (sRet (mAnd (mCall c_is_size (mCons (mVar 1) mNil)) (mB fAny (mCons (mComp [2, 3] (mSeq (mFld "Store" (mVar 0) "own_runs")) (gT 2 (gsCons (gN 2) (gsCons (gN 3) gsNil))) mYes (mCmp fEq (mVar 2) (mVar 1))) mNil))))
def m_Store_contains : FM := mFun 2 4 b_Store_contains
def c_Store_contains : FM := fun ds Q _ => ∃ (R : Runs) (d : D), ds = [storeD R, d] ∧ okB owns d ∧ Q (.bool (sizD d && R.any fun p => decide (p.1 = iOf d)))
theorem c_Store_contains_ok : ∀ ds Q E, c_Store_contains ds Q E → m_Store_contains ds Q E := by
  rintro ds Q E ⟨R, d, rfl, hd, q⟩
  unfold m_Store_contains b_Store_contains
  walk_at "dl"
  refine isZO hd ⟨_, rfl, ?_⟩
  cases h : sizD d with
  | false =>
    rw [h, Bool.false_and] at q
    rw [if_neg (by decide)]
    exact q
  | true =>
    rw [h, Bool.true_and] at q
    rw [if_pos rfl]
    obtain ⟨i, rfl, i0, i1⟩ := siz_int h
    refine ⟨_, rfl, _, rfl, .inr ⟨_, rfl, ?_⟩⟩
    refine compL_map (fun d => match d with | .tup [.int x, .int y] => .bool (decide (x = i)) | _ => .none) (fun d hd R S hR => ?_) ?_
    · obtain ⟨p, hp, rfl⟩ := List.mem_map.mp hd
      refine ⟨_, rfl, rfl, _, _, rfl, _, _, rfl, rfl, ?_⟩
      walk_at "dl"
      exact hR
    · refine ⟨R.map fun p : Int × Int => decide (p.1 = i), by rw [List.nil_append, List.map_map, List.map_map] <;> rfl, ?_⟩
      rw [List.any_map]
      exact q
/-- Store.__len__ -/
def b_Store_len : SM :=
  (sRet (mB fLen (mCons (mFld "Store" (mVar 0) "own_runs") mNil)))
def m_Store_len : FM := mFun 1 1 b_Store_len
def c_Store_len : FM := fun ds Q _ => ∃ L : Runs, ds = [storeD L] ∧ Q (.int (L.length : Int))
theorem c_Store_len_ok : ∀ ds Q E, c_Store_len ds Q E → m_Store_len ds Q E := by
  rintro ds Q E ⟨L, rfl, q⟩
  unfold m_Store_len b_Store_len
  walk_at "dl"
  refine ⟨_, rfl, _, rfl, ?_⟩
  walk_at "dl"
  rw [List.length_map]
  exact q
/-- Store.greatest -/
def b_Store_greatest : SM :=
  (sRet (mBestD true (mCons (mComp [1, 2] (mSeq (mFld "Store" (mVar 0) "own_runs")) (gT 2 (gsCons (gN 1) (gsCons (gN 2) gsNil))) mYes (mVar 1)) mNil) (mC (.int 0))))
def m_Store_greatest : FM := mFun 1 3 b_Store_greatest
def topR (R : Runs) : Int := maxL (R.map (·.1))
def c_Store_greatest : FM := fun ds Q E => ∃ R : Runs, ds = [storeD R] ∧ (∀ p, p ∈ R → 0 ≤ p.1) ∧ Q (.int (topR R))
theorem c_Store_greatest_ok : ∀ ds Q E, c_Store_greatest ds Q E → m_Store_greatest ds Q E := by
  rintro ds Q E ⟨R, rfl, hR, q⟩
  unfold m_Store_greatest b_Store_greatest
  walk_at "dl"
  refine ⟨_, rfl, _, rfl, .inr ⟨_, rfl, ?_⟩⟩
  refine compL_map (fun d => match d with | .tup [.int x, .int y] => .int x | _ => .none) (fun d hd R1 S hR1 => ?_) ?_
  · obtain ⟨p, hp, rfl⟩ := List.mem_map.mp hd
    rw [show pairD p = D.tup [D.int p.1, D.int p.2] from rfl] at hR1 ⊢
    walk_at "dl"
    exact hR1
  · refine ⟨R.map fun p => p.1, by rw [List.nil_append, List.map_map, List.map_map] <;> rfl, fun e => ?_, fun m hm => ?_⟩
    · unfold topR at q
      rw [e] at q
      exact q
    · rw [best_max hm fun n hn => ?_]
      · exact q
      · obtain ⟨p, hp, rfl⟩ := List.mem_map.mp hn
        exact hR p hp
/-- Store.lines -/
def b_Store_lines : SM :=
  (sRet (mB fTuple (mCons (mComp [1, 2] (mSeq (mFld "Store" (mVar 0) "own_runs")) (gT 2 (gsCons (gN 1) (gsCons (gN 2) gsNil))) mYes (mJoined [(mC (.str "room ")), (mFmt (mVar 1)), (mC (.str " many ")), (mFmt (mVar 2))])) mNil)))
def m_Store_lines : FM := mFun 1 3 b_Store_lines
def c_Store_lines : FM := fun ds Q _ => ∃ L : Runs, ds = [storeD L] ∧ (∀ p, p ∈ L → 0 ≤ p.1 ∧ p.1 < 10 ^ 200 ∧ 0 ≤ p.2 ∧ p.2 < 10 ^ 200) ∧ Q (.tup (L.map fun p => .str (lineS "room " " many " p)))
theorem c_Store_lines_ok : ∀ ds Q E, c_Store_lines ds Q E → m_Store_lines ds Q E := by
  rintro ds Q E ⟨L, rfl, hb, q⟩
  unfold m_Store_lines b_Store_lines
  walk_at "dl"
  have c240 : (10 : Int) ^ 200 < 10 ^ 240 := by decide +kernel
  refine ⟨_, rfl, _, rfl, .inr ⟨_, rfl, ?_⟩⟩
  refine compL_map (fun d => .str (lineS "room " " many " (unpairD d))) (fun d hd R S hR => ?_) ?_
  · obtain ⟨p, hp, rfl⟩ := List.mem_map.mp hd
    have b := hb p hp
    have la := decS_le b.1 (show p.1 < 10 ^ 240 by omega)
    have lb := decS_le b.2.2.1 (show p.2 < 10 ^ 240 by omega)
    unfold decS at la lb
    refine ⟨_, rfl, rfl, _, _, rfl, _, _, rfl, rfl, ?_⟩
    walk_at "dl"
    rw [e_emp]
    have l1 : ("room " : Str).length = 5 := by decide +kernel
    have l2 : (" many " : Str).length = 6 := by decide +kernel
    refine ⟨by omega, log_small b.1 b.2.1, by rw [Str.length_append]; omega, by rw [Str.length_append, Str.length_append]; omega, log_small b.2.2.1 b.2.2.2, by rw [Str.length_append, Str.length_append, Str.length_append]; omega, hR⟩
  · rw [List.nil_append, List.map_map]
    exact q
/-- _law_space -/
def b_law_space : SM :=
  (sRet (mB fSum (mCons (mComp [2, 3] (mSeq (mVar 0)) (gT 2 (gsCons (gN 2) (gsCons (gN 3) gsNil))) mYes (mBin fMul (mVar 3) (mBin fDiv (mVar 2) (mVar 1)))) mNil)))
def m_law_space : FM := mFun 2 4 b_law_space
def c_law_space : FM := fun ds Q _ => ∃ (L : Runs) (s : Int), ds = [.list (L.map pairD), .int s] ∧ widN L ∧ 1 ≤ s ∧ s < 10 ^ 200 ∧ Q (.int (spaceT L s))
theorem c_law_space_ok : ∀ ds Q E, c_law_space ds Q E → m_law_space ds Q E := by
  rintro ds Q E ⟨L, s, rfl, hb, hs, hs', q⟩
  unfold m_law_space b_law_space
  walk_at "dl"
  refine compL_map (fun d => match d with | .tup [.int x, .int y] => .int (y * (x / s)) | _ => .none) (fun d hd R S hR => ?_) ?_
  · obtain ⟨p, hp, rfl⟩ := List.mem_map.mp hd
    refine ⟨_, rfl, rfl, _, _, rfl, _, _, rfl, rfl, ?_⟩
    walk_at "dl"
    exact ⟨div_ok' hs hs', hb.mul s hs p hp, hR⟩
  · exact ⟨L.map fun p : Int × Int => p.2 * (p.1 / s), by rw [List.nil_append, List.map_map, List.map_map] <;> rfl, q⟩
/-- _law_told_right -/
def b_law_told_right : SM :=
  (sSeq (sPar 2 3 (mCons (mCall c_law_merged (mCons (mVar 0) mNil)) (mCons (mB fSum (mCons (mComp [4, 5] (mSeq (mVar 0)) (gT 2 (gsCons (gN 4) (gsCons (gN 5) gsNil))) mYes (mBin fMul (mVar 4) (mVar 5))) mNil)) mNil)))
  (sSeq (sParVM 6 7 (mB fSum (mCons (mComp [4, 5] (mSeq (mVar 0)) (gT 2 (gsCons (gN 4) (gsCons (gN 5) gsNil))) mYes (mVar 5)) mNil)) (mC (.dict [])))
  (sSeq (sFor (mSeq (mB fSortP (mCons (mVar 0) mNil))) (gT 2 (gsCons (gN 4) (gsCons (gN 5) gsNil)))
  (sPut 7 (mVar 4) (mBin fAdd (mDGet2 (mMut 7) (mVar 4) (mC (.int 0))) (mVar 5))))
  (sFrz 7 (sSeq (sSet 8 (mB fTuple (mCons (mComp [4, 5] (mSeq (mVar 2)) (gT 2 (gsCons (gN 4) (gsCons (gN 5) gsNil))) mYes (mBin fAdd (mBin fAdd (mBin fAdd (mC (.str "room ")) (mB fStr (mCons (mVar 4) mNil))) (mC (.str " many "))) (mB fStr (mCons (mVar 5) mNil)))) mNil)))
  (sSeq (sSet 9 (mLst (mCons (mProp "Store" c_Store_runs (mVar 1)) (mCons (mProp "Store" c_Store_lines (mVar 1)) (mCons (mProp "Store" c_Store_number (mVar 1)) (mCons (mProp "Store" c_Store_total (mVar 1)) (mCons (mProp "Store" c_Store_greatest (mVar 1)) (mCons (mProp "Store" c_Store_rooms (mVar 1)) (mCons (mLenO "Store" c_Store_len (mVar 1)) (mCons (mListO "Store" "own_runs" c_Store_len (mVar 1)) mNil))))))))))
  (sSeq (sSet 10 (mBin fAdd (mBin fAdd (mBin fAdd (mBin fAdd (mC (.str "store of ")) (mB fStr (mCons (mVar 6) mNil))) (mC (.str " rooms, "))) (mB fStr (mCons (mB fLen (mCons (mVar 2) mNil)) mNil))) (mC (.str " runs"))))
  (sSeq (sSet 11 (mLst (mCons (mB fTuple (mCons (mVar 2) mNil)) (mCons (mVar 8) (mCons (mVar 6) (mCons (mVar 3) (mCons (mB fMaxL (mCons (mBin fAdd (mComp [4, 5] (mSeq (mVar 0)) (gT 2 (gsCons (gN 4) (gsCons (gN 5) gsNil))) mYes (mVar 4)) (mLst (mCons (mC (.int 0)) mNil))) mNil)) (mCons (mVar 7) (mCons (mB fLen (mCons (mVar 2) mNil)) (mCons (mVar 2) mNil))))))))))
  (sSeq (sIf (mOrT (mCmpT fNe (mRepr (mVar 9)) (mRepr (mVar 11))) (mCmpT fNe (mStrO "Store" c_Store_str (mVar 1)) (mVar 10)))
  (sRet (mC (.bool false)))
  sNext)
  (sSeq (sFor (mSeq (mBin fAdd (mLst (mCons (mC (.int 1)) (mCons (mC (.int 2)) (mCons (mC (.int 3)) (mCons (mC (.int 7)) (mCons (mBin fPow (mC (.int 10)) (mC (.int 30))) mNil)))))) (mComp [4, 5] (mSeq (mVar 0)) (gT 2 (gsCons (gN 4) (gsCons (gN 5) gsNil))) mYes (mVar 4)))) (gN 12)
  (sIf (mOrT (mCmpT fNe (mRepr (mMeth "Store" "units" c_Store_units (mVar 1) (mCons (mVar 12) mNil))) (mRepr (mCall c_law_space (mCons (mVar 0) (mCons (mVar 12) mNil))))) (mCmpT fNe (mInO "Store" false c_Store_contains (mVar 12) (mVar 1)) (mCmp (fInY false) (mVar 12) (mVar 7))))
    (sRet (mC (.bool false)))
    sNext))
  (sSeq (sSet 13 (mLst (mCons (mC .none) (mCons (mC (.int 0)) (mCons (mNeg (mC (.int 1))) (mCons (mC (.str "1")) (mCons (mTup (mCons (mC (.int 1)) (mCons (mC (.int 1)) mNil))) (mCons (mLst mNil) (mCons (mC (.dict [])) (mCons (mC (.bool true)) (mCons (mVar 1) (mCons (mVar 2) mNil))))))))))))
  (sRet (mCmp fEq (mComp [14] (mSeq (mVar 13)) (gN 14) (mTest (mInO "Store" false c_Store_contains (mVar 14) (mVar 1))) (mVar 14)) (mLst mNil))))))))))))))
def m_law_told_right : FM := mFun 2 15 b_law_told_right
def bigR (R : Runs) : Prop := R.length ≤ 12 ∧ ∀ p, p ∈ R → (1 ≤ p.1 ∧ p.1 < 10 ^ 32) ∧ 1 ≤ p.2 ∧ p.2 ≤ 10 ^ 40
def c_law_told_right : FM := fun ds Q _ => ∃ R : Runs, ds = [.list (R.map pairD), storeD (mergeT R)] ∧ bigR R ∧ Q (.bool true)
theorem c_law_told_right_ok : ∀ ds Q E, c_law_told_right ds Q E → m_law_told_right ds Q E := by
  rintro ds Q E ⟨R, rfl, hR, q⟩
  unfold m_law_told_right b_law_told_right
  walk_at "dl"
  refine ⟨R, rfl, by have := hR.1; omega, ?_⟩
  have c32 : (10 : Int) ^ 32 < 10 ^ 40 := by decide +kernel
  have c50 : (10 : Int) ^ 40 * 1000 < 10 ^ 50 := by decide +kernel
  have c60 : (10 : Int) ^ 50 * 1000 < 10 ^ 60 := by decide +kernel
  have c200 : (10 : Int) ^ 60 * 1000 < 10 ^ 200 := by decide +kernel
  have c240 : (10 : Int) ^ 200 < 10 ^ 240 := by decide +kernel
  have hb := hR.2
  have hl := hR.1
  have bM : bndR (mergeT R) := bndR.merge (by omega) fun p hp => by have := hb p hp; exact ⟨⟨by omega, by omega⟩, by omega, by omega⟩
  have lM : (mergeT R).length ≤ 12 := Nat.le_trans (mergeT_len R) hl
  have posR : ∀ p, p ∈ R → 1 ≤ p.2 := fun p hp => (hb p hp).2.1
  have posM : ∀ p, p ∈ mergeT R → 1 ≤ p.2 := fun p hp => (bM.2 p hp).2.1
  have rm : roomsT (mergeT R) = roomsT R := rooms_same posM posR fun k => sumR_merge _ R
  have nm : numT (mergeT R) = numT R := num_merge R
  have tm : totT (mergeT R) = totT R := by rw [tot_sumR, tot_sumR, sumR_merge]
  have tl : (mergeT R).length ≤ 100 := by omega
  refine compL_map (fun d => .int ((unpairD d).1 * (unpairD d).2)) (fun d hd R' S hR' => ?_) ?_
  · obtain ⟨p, hp, rfl⟩ := List.mem_map.mp hd
    have b := hb p hp
    refine ⟨_, rfl, rfl, _, _, rfl, _, _, rfl, rfl, ?_⟩
    walk_at "dl"
    exact ⟨lim200 (by omega) (by omega) (by omega) (by omega), hR'⟩
  refine ⟨R.map fun p : Int × Int => p.1 * p.2, by rw [List.nil_append, List.map_map, List.map_map] <;> rfl, ?_⟩
  refine compL_map (fun d => .int (unpairD d).2) (fun d hd R' S hR' => ?_) ?_
  · obtain ⟨p, hp, rfl⟩ := List.mem_map.mp hd
    refine ⟨_, rfl, rfl, _, _, rfl, _, _, rfl, rfl, ?_⟩
    walk_at "dl"
    exact hR'
  refine ⟨R.map (·.2), by rw [List.nil_append, List.map_map, List.map_map] <;> rfl, ?_⟩
  refine ⟨R, .inl rfl, .inl ⟨_, rfl, ?_⟩⟩
  show forL _ _ _ [_, _, _, DV.v (.int (totT R)), _, _, DV.v (.int (numT R)), _, _, _, _, _, _, _, _] _
  have lm : (sortP R).length = R.length := (sortP_perm R).length_eq
  refine forL_inv (fun i δ => ∃ (T : Tab) (a b : DV), δ = [DV.v (.list (R.map pairD)), .v (storeD (mergeT R)), .v (.list ((mergeT R).map pairD)), .v (.int (totT R)), a, b, .v (.int (numT R)), .m (.dict (tabD T)), .u, .u, .u, .u, .u, .u, .u] ∧ T = addT [] ((sortP R).take i) ∧ T.length ≤ i) (fun i d δ N hd ⟨T, a, b, hδ, hT, hl'⟩ hN => ?_) ⟨[], _, _, rfl, rfl, Nat.le_refl _⟩ fun δ ⟨T, a, b, hδ, hT, hl'⟩ => ?_
  · subst hδ
    rw [List.getElem?_map, Option.map_eq_some_iff] at hd
    obtain ⟨p, hp, rfl⟩ := hd
    have hi := (List.getElem?_eq_some_iff.mp hp).1
    have ep := (List.getElem?_eq_some_iff.mp hp).2
    have nT : (keysT T).Nodup := by rw [hT]; exact (addT_cnt (M := (sortP R).take i) (L := []) List.nodup_nil).1
    refine ⟨_, rfl, rfl, _, _, rfl, _, _, rfl, rfl, ?_⟩
    walk_at "dl"
    rw [valD_get]
    walk_at "dl"
    rw [tab_len, inc_put nT]
    have l := add_len (L := T) (z := p.1) (n := p.2)
    refine ⟨by omega, hN _ ⟨incT T p.1 p.2, _, _, rfl, ?_, by omega⟩⟩
    rw [hT, List.take_succ_eq_append_getElem hi, ep, addT_snoc]
  subst hδ
  rw [List.length_map, List.take_length] at hT
  have hT : T = roomsT R := hT
  rw [List.length_map, lm] at hl'
  subst hT
  walk_at "dl"
  have nn : 0 ≤ numT R := nnT.num fun p hp => by have := posR p hp; omega
  have nl : numT R < 10 ^ 50 := by
    have h1 := num_len (P := R) (B := 10 ^ 40) fun p hp => (hb p hp).2.2
    have h2 : (R.length : Int) * 10 ^ 40 ≤ 12 * 10 ^ 40 := Int.mul_le_mul_of_nonneg_right (by omega) (by decide +kernel)
    omega
  have tot0 : 0 ≤ totT R := totT_pos fun p hp => by have := hb p hp; omega
  have tot1 : totT R < 10 ^ 200 := by
    have h1 := tot_le (B := 10 ^ 40) (by decide +kernel) (L := R) fun p hp => by have := hb p hp; omega
    have h4 : (10 : Int) ^ 40 * numT R ≤ 10 ^ 40 * 10 ^ 50 := Int.mul_le_mul_of_nonneg_left (by omega) (by decide +kernel)
    exact Int.lt_of_le_of_lt (Int.le_trans h1 h4) (by decide +kernel)
  refine compL_map (fun d => .str (lineS "room " " many " (unpairD d))) (fun d hd R' S' hR' => ?_) ?_
  · obtain ⟨p, hp', rfl⟩ := List.mem_map.mp hd
    have h2 := bM.2 p hp'
    have la := decS_le (n := p.1) (by omega) (by omega)
    have lb := decS_le (n := p.2) (by omega) (by omega)
    unfold decS at la lb
    have l1 : ("room " : Str).length = 5 := by decide +kernel
    have l2 : (" many " : Str).length = 6 := by decide +kernel
    refine ⟨_, rfl, rfl, _, _, rfl, _, _, rfl, rfl, ?_⟩
    walk_at "dl"
    refine ⟨log_small (by omega) (by omega), ⟨by omega, ?_⟩⟩
    refine ⟨by rw [Str.length_append]; omega, ?_⟩
    refine ⟨log_small (by omega) (by omega), by rw [Str.length_append, Str.length_append]; omega, hR'⟩
  rw [List.nil_append, List.map_map]
  have eL : (mergeT R).map ((fun d => D.str (lineS "room " " many " (unpairD d))) ∘ pairD) = (mergeT R).map fun p => D.str (lineS "room " " many " p) := rfl
  rw [eL]
  walk_at "dl"
  refine ⟨_, rfl, mergeT R, rfl, _, rfl, mergeT R, rfl, fun p hp => by have := bM.2 p hp; omega, _, rfl, mergeT R, rfl, _, rfl, mergeT R, rfl, fun p hp => by have := bM.2 p hp; exact lim200 (by omega) (by omega) (by omega) (by omega), ?_⟩
  rw [nm, tm]
  refine ⟨_, rfl, mergeT R, rfl, fun p hp => by have := bM.2 p hp; omega, ?_⟩
  refine ⟨_, rfl, mergeT R, rfl, tl, ?_⟩
  rw [rm]
  have l1 : ("store of " : Str).length = 9 := by decide +kernel
  have l2 : (" rooms, " : Str).length = 8 := by decide +kernel
  have l3 : (" runs" : Str).length = 5 := by decide +kernel
  have da := decS_le nn (by omega)
  have db := decS_le (n := ((mergeT R).length : Int)) (by omega) (Int.lt_of_le_of_lt (show ((mergeT R).length : Int) ≤ 12 by omega) (by decide +kernel))
  unfold decS at da db
  refine ⟨_, rfl, mergeT R, rfl, _, rfl, by omega, by omega, ?_⟩
  refine ⟨_, rfl, _, rfl, ⟨mergeT R, rfl, _, rfl, by omega, by omega⟩, ?_⟩
  rw [e_srcT, List.length_map]
  refine ⟨log_small nn (by omega), by omega, by rw [Str.length_append]; omega, log_small (by omega) (Int.lt_of_le_of_lt (show ((mergeT R).length : Int) ≤ 12 by omega) (by decide +kernel)), by rw [Str.length_append, Str.length_append]; omega, by rw [Str.length_append, Str.length_append, Str.length_append]; omega, ?_⟩
  refine compL_map (fun d => .int (unpairD d).1) (fun d hd R' S hR' => ?_) ?_
  · obtain ⟨p, hp, rfl⟩ := List.mem_map.mp hd
    refine ⟨_, rfl, rfl, _, _, rfl, _, _, rfl, rfl, ?_⟩
    walk_at "dl"
    exact hR'
  rw [List.nil_append, List.map_map]
  have eF : R.map ((fun d => D.int (unpairD d).1) ∘ pairD) = (R.map (·.1)).map .int := by rw [List.map_map] <;> rfl
  rw [eF]
  refine ⟨by rw [List.length_map, List.length_map, sizeLine_eq]; show R.length + 1 ≤ _; omega, ?_⟩
  refine ⟨R.map (·.1) ++ [0], by rw [List.map_append] <;> rfl, by rw [List.length_append]; simp, fun m hm hge => ?_⟩
  have em : m = topR (mergeT R) := by
    have rk : ∀ x, (∃ p, p ∈ mergeT R ∧ p.1 = x) ↔ ∃ p, p ∈ R ∧ p.1 = x := fun x => by rw [← roomsK_mem, ← roomsK_mem, rm]
    have h0 : 0 ≤ m := hge 0 (List.mem_append_right _ (List.mem_singleton.mpr rfl))
    have h1 : topR (mergeT R) ≤ m := (maxL_le h0).mpr fun x hx => by
      obtain ⟨p, hp, rfl⟩ := List.mem_map.mp hx
      obtain ⟨p', hp', e⟩ := (rk p.1).mp ⟨p, hp, rfl⟩
      rw [← e]
      exact hge _ (List.mem_append_left _ (List.mem_map.mpr ⟨p', hp', rfl⟩))
    have h2 : m ≤ topR (mergeT R) := by
      rcases List.mem_append.mp hm with h | h
      · obtain ⟨p, hp, rfl⟩ := List.mem_map.mp h
        obtain ⟨p', hp', e⟩ := (rk p.1).mpr ⟨p, hp, rfl⟩
        rw [← e]
        exact maxL_ge (List.mem_map.mpr ⟨p', hp', rfl⟩)
      · rw [List.mem_singleton.mp h]
        exact maxL_nn _
    omega
  subst em
  have shI : ∀ {i : Int}, 0 ≤ i → i < 10 ^ 200 → Sh 70000 2 (.int i) := fun h1 h2 => (Sh_int (log_small h1 h2)).mono (by decide) (by decide)
  have shP : ∀ d, d ∈ (mergeT R).map pairD → Sh 4000 1 d := fun d hd => by
    obtain ⟨p, hp, rfl⟩ := List.mem_map.mp hd
    have b := bM.2 p hp
    exact (Sh_ints (k := 0) (ns := [p.1, p.2]) fun i hi => by
      simp only [List.mem_cons, List.not_mem_nil, or_false] at hi
      rcases hi with rfl | rfl
      · exact log_small (by omega) (by omega)
      · exact log_small (by omega) (by omega)).mono (by show 2 * 1923 + 3 ≤ 4000; decide) (by decide)
  have shA : Sh 70000 2 (.tup ((mergeT R).map pairD)) := by
    have := Sh_tup shP
    rw [List.length_map] at this
    exact this.mono (by omega) (by decide)
  have shL : Sh 70000 2 (.list ((mergeT R).map pairD)) := by
    have := Sh_list shP
    rw [List.length_map] at this
    exact this.mono (by omega) (by decide)
  have shC : Sh 70000 2 (.tup ((mergeT R).map fun p => .str (lineS "room " " many " p))) := by
    have := Sh_tup (n := 10 * 500 + 2) (k := 0) (ds := (mergeT R).map fun p => .str (lineS "room " " many " p)) fun d hd => by
      obtain ⟨p, hp, rfl⟩ := List.mem_map.mp hd
      have b := bM.2 p hp
      exact Sh_str (lineS_ok p) (lineS_le (by omega) (by omega) (by omega) (by omega) (by decide +kernel) (by decide +kernel))
    rw [List.length_map] at this
    exact this.mono (by omega) (by decide)
  have rb : ∀ p, p ∈ roomsT R → (1 ≤ p.1 ∧ p.1 < 10 ^ 32) ∧ 1 ≤ p.2 ∧ p.2 ≤ numT R := fun p hp => by
    obtain ⟨g, hg, e⟩ := roomsK_mem.mp (List.mem_map.mpr ⟨p, hp, rfl⟩)
    refine ⟨by rw [← e]; exact (hb g hg).1, rooms_pos posR p hp, ?_⟩
    rw [← cntT_mem (rooms_nd R) hp, rooms_cnt, num_sumR]
    have key : ∀ {S : Runs}, (∀ p, p ∈ S → 0 ≤ p.2) → sumR (indI p.1) S ≤ sumR (fun _ => 1) S := by
      intro S
      induction S with
      | nil => intro _; exact Int.le_refl 0
      | cons q r ih =>
        intro h
        have h1 := ih fun x hx => h x (List.mem_cons_of_mem _ hx)
        have h2 := h q List.mem_cons_self
        rw [sumR_cons, sumR_cons]
        unfold indI at h1 ⊢
        split
        · omega
        · omega
    exact key fun x hx => by have := posR x hx; omega
  have lr : (roomsT R).length ≤ 12 := by omega
  have shD : Sh 70000 2 (.dict (tabD (roomsT R))) := by
    have := Sh_dict (n := 1921) (k := 0) (kvs := tabD (roomsT R)) fun kv hkv => by
      obtain ⟨p, hp, rfl⟩ := List.mem_map.mp hkv
      have b := rb p hp
      exact ⟨ShK_int (log_small (by omega) (by omega)), Sh_int (log_small (by omega) (by omega))⟩
    rw [tab_len] at this
    exact this.mono (by omega) (by decide)
  have top1 : topR (mergeT R) < 10 ^ 200 := Int.lt_of_le_of_lt ((maxL_le (k := 10 ^ 50) (by decide +kernel)).mpr fun x hx => by
    obtain ⟨p, hp, rfl⟩ := List.mem_map.mp hx
    have := bM.2 p hp; omega) (by decide +kernel)
  have i12 : ((mergeT R).length : Int) < 10 ^ 200 := Int.lt_of_le_of_lt (show ((mergeT R).length : Int) ≤ 12 by omega) (by decide +kernel)
  have shAll := Sh_list (n := 70000) (k := 2) (ds := [D.tup ((mergeT R).map pairD), D.tup ((mergeT R).map fun p => .str (lineS "room " " many " p)), D.int (numT R), D.int (totT R), D.int (topR (mergeT R)), D.dict (tabD (roomsT R)), D.int ((mergeT R).length : Int), D.list ((mergeT R).map pairD)]) (by
    simp only [List.mem_cons, List.not_mem_nil, or_false]
    rintro d (rfl | rfl | rfl | rfl | rfl | rfl | rfl | rfl)
    · exact shA
    · exact shC
    · exact shI nn (by omega)
    · exact shI tot0 tot1
    · exact shI (maxL_nn _) top1
    · exact shD
    · exact shI (by omega) i12
    · exact shL)
  refine fRepr_ne shAll (by show 8 * (70000 + 2) + 2 ≤ _; decide) (by decide) rfl ?_
  clear shA shC shL shD shAll shP
  rw [if_neg (by decide)]
  refine ⟨_, rfl, mergeT R, rfl, by omega, by omega, tl, _, rfl, ?_⟩
  have text : strR (mergeT R) = "store of " ++ Str.ofString (toString (numT R)) ++ " rooms, " ++ Str.ofString (toString ((mergeT R).length : Int)) ++ " runs" := by
    unfold strR decS
    rw [nm]
  rw [← text]
  refine fNe_same ((fineN_str (n := 0) (strR_ok _)).fine (by decide)) ?_
  rw [if_neg (by decide)]
  refine ⟨⟨by decide, by decide⟩, ?_⟩
  generalize D.tup ((mergeT R).map fun p => .str (lineS "room " " many " p)) = x8
  generalize D.list [D.tup ((mergeT R).map pairD), _, _, _, _, _, _, _] = x9
  generalize strR (mergeT R) = x10
  refine compL_map (fun d => .int (unpairD d).1) (fun d hd R' S hR' => ?_) ?_
  · obtain ⟨p, hp, rfl⟩ := List.mem_map.mp hd
    refine ⟨_, rfl, rfl, _, _, rfl, _, _, rfl, rfl, ?_⟩
    walk_at "dl"
    exact hR'
  rw [List.nil_append, List.map_map, eF]
  refine ⟨by rw [List.length_map, List.length_map, sizeLine_eq]; show 5 + R.length ≤ _; omega, ?_⟩
  refine .inl ⟨_, rfl, ?_⟩
  refine forL_inv (fun _ δ => ∃ a b c, δ = [DV.v (.list (R.map pairD)), .v (storeD (mergeT R)), .v (.list ((mergeT R).map pairD)), .v (.int (totT R)), a, b, .v (.int (numT R)), .v (.dict (tabD (roomsT R))), .v x8, .v x9, .v (.str x10), .v x9, c, .u, .u]) (fun i d δ N hd ⟨a, b, c, hδ⟩ hN => ?_) ⟨_, _, _, rfl⟩ fun δ ⟨a, b, c, hδ⟩ => ?_
  · subst hδ
    obtain ⟨z, rfl, z1, z2⟩ : ∃ z : Int, d = .int z ∧ 1 ≤ z ∧ z < 10 ^ 200 := by
      rcases List.mem_append.mp (List.mem_of_getElem? hd) with h | h
      · simp only [List.mem_cons, List.not_mem_nil, or_false] at h
        rcases h with rfl | rfl | rfl | rfl | rfl <;> exact ⟨_, rfl, by decide +kernel, by decide +kernel⟩
      · obtain ⟨k, hk', rfl⟩ := List.mem_map.mp h
        obtain ⟨p, hp, rfl⟩ := List.mem_map.mp hk'
        have := hb p hp
        exact ⟨_, rfl, by omega, by omega⟩
    have sz := siz_key' z1 z2
    have sp : spaceT (mergeT R) z = spaceT R z := space_merge z R
    have key : ∀ {S : Runs}, (∀ p, p ∈ S → 0 ≤ p.1 ∧ 0 ≤ p.2) → 0 ≤ spaceT S z ∧ spaceT S z ≤ sumR (fun r => r) S := by
      intro S
      induction S with
      | nil => intro _; exact ⟨Int.le_refl 0, Int.le_refl 0⟩
      | cons q r ih =>
        intro h
        have h1 := ih fun x hx => h x (List.mem_cons_of_mem _ hx)
        have h2 := h q List.mem_cons_self
        have e1 : spaceT (q :: r) z = q.2 * (q.1 / z) + spaceT r z := by unfold spaceT; rw [List.map_cons, List.sum_cons]
        rw [e1, sumR_cons]
        have a1 : 0 ≤ q.1 / z := Int.ediv_nonneg h2.1 (by omega)
        have a2 : q.1 / z ≤ q.1 := Int.ediv_le_self _ h2.1
        have a3 := Int.mul_nonneg h2.2 a1
        have a4 : q.2 * (q.1 / z) ≤ q.2 * q.1 := Int.mul_le_mul_of_nonneg_left a2 h2.2
        omega
    have sb := key (S := R) fun p hp => by have := hb p hp; omega
    rw [← tot_sumR] at sb
    have shN : Sh 1921 0 (.int (spaceT R z)) := Sh_int (log_small sb.1 (by omega))
    walk_at "dl"
    refine ⟨_, rfl, rfl, mergeT R, .int z, rfl, .inl rfl, bM.widN.mul, ?_⟩
    rw [sz, if_pos rfl, show iOf (.int z) = z from rfl, sp]
    refine fRepr_sh shN (by decide) (by decide) ?_
    refine ⟨R, z, rfl, ⟨by omega, fun p hp => by have := hb p hp; omega⟩, z1, z2, ?_⟩
    refine fRepr_sh shN (by decide) (by decide) ?_
    refine fNe_same ((fineN_str (n := 0) shN.ok).fine (by decide)) ?_
    rw [if_neg (by decide)]
    refine ⟨_, rfl, mergeT R, .int z, rfl, .inl rfl, _, rfl, ?_⟩
    have memE : (sizD (.int z) && (mergeT R).any fun p => decide (p.1 = iOf (.int z))) = (valD (tabD (roomsT R)) (Sum.inl z)).isSome := by
      rw [sz, Bool.true_and, valD_tab, Option.isSome_map, Bool.eq_iff_iff, List.any_eq_true]
      have g : (valT (roomsT R) z).isSome = true ↔ z ∈ keysT (roomsT R) := by
        constructor
        · intro h
          refine Decidable.byContradiction fun c => ?_
          rw [valT_none c] at h
          cases h
        · intro h
          obtain ⟨p, hp, rfl⟩ := List.mem_map.mp h
          have := valD_in (rooms_nd R) hp
          rw [valD_tab] at this
          cases hv : valT (roomsT R) p.1 with
          | none => rw [hv] at this; cases this
          | some _ => rfl
      rw [g, ← rm, roomsK_mem]
      constructor
      · rintro ⟨p, hp, e⟩
        exact ⟨p, hp, of_decide_eq_true e⟩
      · rintro ⟨p, hp, e⟩
        exact ⟨p, hp, decide_eq_true e⟩
    rw [memE, if_neg (by simp)]
    exact hN _ ⟨_, _, _, rfl⟩
  · subst hδ
    walk_at "dl"
    refine compL_det (fun _ => false) (fun d => d) (fun d hd R' S' hR' => ?_) ?_
    · have hR' : S' := by simpa using hR'
      have odd : okB owns d ∧ sizD d = false := by
        simp only [List.mem_cons, List.not_mem_nil, or_false] at hd
        rcases hd with rfl | rfl | rfl | rfl | rfl | rfl | rfl | rfl | rfl | rfl
        · exact ⟨.inl rfl, rfl⟩
        · exact ⟨.inl rfl, by decide +kernel⟩
        · exact ⟨.inl rfl, by decide +kernel⟩
        · exact ⟨.inl rfl, rfl⟩
        · exact ⟨.inl rfl, rfl⟩
        · exact ⟨.inl rfl, rfl⟩
        · exact ⟨.inl rfl, rfl⟩
        · exact ⟨.inl rfl, rfl⟩
        · exact ⟨.inr ⟨_, _, rfl, by decide⟩, rfl⟩
        · exact ⟨.inl rfl, rfl⟩
      walk_at "dl"
      refine ⟨_, rfl, mergeT R, d, rfl, odd.1, _, rfl, ?_⟩
      rw [odd.2, if_neg (by simp)]
      exact hR'
    · rw [List.filter_eq_nil_iff.mpr fun _ _ => by decide]
      exact eq_nil_int [] q
/-- _law_long_chain -/
def b_law_long_chain : SM :=
  (sSeq (sSetM 1 (mLst (mCons (mBin fAdd (mC (.int 1)) (mCall mRoll (mCons (mVar 0) (mCons (mC (.int 5)) mNil)))) mNil)))
  (sSeq (sFor (mRange1 (mCons (mCall mRoll (mCons (mVar 0) (mCons (mC (.int 6)) mNil))) mNil)) (gN 2)
  (sSeq (sSet 3 (mIf (mCmpT fGt (mCall mRoll (mCons (mVar 0) (mCons (mC (.int 3)) mNil))) (mC (.int 0))) (mBin fAdd (mC (.int 2)) (mCall mRoll (mCons (mVar 0) (mCons (mC (.int 3)) mNil)))) (mBin fAdd (mC (.int 2)) (mCall mRoll (mCons (mVar 0) (mCons (mC (.int 100003)) mNil))))))
    (sApp 1 (mBin fMul (mBin fIx (mMut 1) (mNeg (mC (.int 1)))) (mVar 3)))))
  (sFrz 1 (sRet (mB fTuple (mCons (mVar 1) mNil))))))
def m_law_long_chain : FM := mFun 1 4 b_law_long_chain
def c_law_long_chain : FM := fun ds Q _ => ds = [.dice] ∧ ∀ ns : List Int, 1 ≤ ns.length → ns.length ≤ 6 → (∀ i, i ∈ ns → 1 ≤ i ∧ i < 10 ^ 30) → ascL ns = true → gapL ns = none → Q (.tup (ns.map .int))
theorem c_law_long_chain_ok : ∀ ds Q E, c_law_long_chain ds Q E → m_law_long_chain ds Q E := by
  rintro ds Q E ⟨rfl, q⟩
  unfold m_law_long_chain b_law_long_chain
  walk_at "dl"
  refine ⟨_, rfl, by decide, by decide, fun r r0 r1 => ?_⟩
  walk_at "dl"
  refine ⟨_, rfl, by decide, by decide, fun m m0 m1 => ?_⟩
  walk_at "dl"
  refine ⟨by omega, by omega, ?_⟩
  have hlen : (rangeD 0 m.toNat).length = m.toNat := by unfold rangeD; rw [List.length_map, List.length_range]
  refine forL_inv (fun i δ => ∃ ns x y, δ = [DV.v .dice, .m (.list (ns.map .int)), x, y] ∧ ns.length = i + 1 ∧ (∀ j, j ∈ ns → 1 ≤ j ∧ j ≤ 5 * 100004 ^ i) ∧ ascL ns = true ∧ gapL ns = none) (fun i d δ N hd ⟨ns, x, y, hδ, hn, hb, ha, hg⟩ hN => ?_) ⟨[1 + r], _, _, rfl, rfl, fun j hj => ?_, rfl, rfl⟩ fun δ ⟨ns, x, y, hδ, hn, hb, ha, hg⟩ => ?_
  · subst hδ
    have h0 : ns ≠ [] := fun z => by rw [z] at hn; cases hn
    have hi := (rangeD_get hd).1
    walk_at "dl"
    refine ⟨_, rfl, by decide, by decide, fun w w0 w1 => ?_⟩
    walk_at "dl"
    have stp : ∀ t : Int, 2 ≤ t → t ≤ 100004 → N [DV.v .dice, .m (.list ((ns ++ [ns.getLastD 0 * t]).map .int)), .v d, .v (.int t)] := fun t t0 t1 => by
      have hl := hb _ (last_mem h0)
      have hB : (1 : Int) ≤ 100004 ^ i := by
        have : 0 < (100004 : Nat) ^ i := Nat.pow_pos (by decide)
        rw [pow_nat]
        exact Int.ofNat_le.mpr this
      have e : (100004 : Int) ^ (i + 1) = 100004 ^ i * 100004 := Int.pow_succ _ _
      have u1 : ns.getLastD 0 * t ≤ (5 * 100004 ^ i) * 100004 := Int.mul_le_mul hl.2 t1 (by omega) (by omega)
      have u2 : ns.getLastD 0 * 2 ≤ ns.getLastD 0 * t := Int.mul_le_mul_of_nonneg_left t0 (by omega)
      refine hN _ ⟨_, _, _, rfl, by rw [List.length_append]; simp [hn], fun j hj => ?_, asc_append h0 ha (by omega), gap_append h0 hg (Int.mul_emod_right _ _)⟩
      rw [e]
      rcases List.mem_append.mp hj with hj | hj
      · have := hb j hj
        generalize (100004 : Int) ^ i = B at *
        omega
      · rw [List.mem_singleton.mp hj]
        generalize (100004 : Int) ^ i = B at *
        omega
    have al := atI_last h0
    have mk : ∀ t : Int, 2 ≤ t → t ≤ 100004 → IntMulOk (ns.getLastD 0) t := fun t a b => mul_r (by omega) (by omega)
    split
    · refine ⟨_, rfl, by decide, by decide, fun t t0 t1 => ?_⟩
      walk_at "dl"
      refine ⟨_, al, ?_⟩
      walk_at "dl"
      have st := stp (2 + t) (by omega) (by omega)
      rw [List.map_append] at st
      exact ⟨mk _ (by omega) (by omega), by rw [List.length_map]; omega, st⟩
    · refine ⟨_, rfl, by decide, by decide, fun t t0 t1 => ?_⟩
      walk_at "dl"
      refine ⟨_, al, ?_⟩
      walk_at "dl"
      have st := stp (2 + t) (by omega) (by omega)
      rw [List.map_append] at st
      exact ⟨mk _ (by omega) (by omega), by rw [List.length_map]; omega, st⟩
  · rw [List.mem_singleton.mp hj]
    exact ⟨by omega, by show 1 + r ≤ 5 * 1; omega⟩
  · subst hδ
    walk_at "dl"
    rw [hlen] at hn hb
    refine q ns (by omega) (by omega) (fun j hj => ⟨(hb j hj).1, ?_⟩) ha hg
    have h1 := (hb j hj).2
    have h2 : (100004 : Int) ^ m.toNat ≤ 100004 ^ 5 := by
      have : (100004 : Nat) ^ m.toNat ≤ 100004 ^ 5 := Nat.pow_le_pow_right (by decide) (by omega)
      rw [pow_nat, pow_nat]
      exact Int.ofNat_le.mpr this
    have h3 : (5 * 100004 ^ 5 : Int) < 10 ^ 30 := by decide +kernel
    generalize (100004 : Int) ^ m.toNat = A at *
    generalize (100004 : Int) ^ 5 = B at *
    generalize (10 : Int) ^ 30 = C at *
    omega
/-- _law_wild_sizes -/
def b_law_wild_sizes : SM :=
  (sSeq (sIf (mCmpT fEq (mCall mRoll (mCons (mVar 0) (mCons (mC (.int 2)) mNil))) (mC (.int 0)))
  (sRet (mCall c_law_long_chain (mCons (mVar 0) mNil)))
  sNext)
  (sRet (mB fTuple (mCons (mB fSortSet (mCons (mComp [1] (mRange1 (mCons (mBin fAdd (mC (.int 1)) (mCall mRoll (mCons (mVar 0) (mCons (mC (.int 5)) mNil)))) mNil)) (gN 1) mYes (mBin fAdd (mC (.int 1)) (mCall mRoll (mCons (mVar 0) (mCons (mC (.int 12)) mNil))))) mNil)) mNil))))
def m_law_wild_sizes : FM := mFun 1 2 b_law_wild_sizes
def c_law_wild_sizes : FM := fun ds Q _ => ds = [.dice] ∧ ∀ ns : List Int, ns ≠ [] → ns.Pairwise (· < ·) → ns.length ≤ 6 → (∀ i, i ∈ ns → 1 ≤ i ∧ i < 10 ^ 30) → Q (.tup (ns.map .int))
theorem c_law_wild_sizes_ok : ∀ ds Q E, c_law_wild_sizes ds Q E → m_law_wild_sizes ds Q E := by
  rintro ds Q E ⟨rfl, q⟩
  unfold m_law_wild_sizes b_law_wild_sizes
  walk_at "dl"
  refine ⟨_, rfl, by decide, by decide, fun r r0 r1 => ?_⟩
  walk_at "dl"
  by_cases c : r = 0
  · rw [if_pos (decide_eq_true c)]
    exact ⟨rfl, fun ns n1 n6 nb na ng => q ns (fun e => by subst e; exact absurd n1 (by decide)) (pair_asc na) n6 nb⟩
  rw [if_neg (by simpa using c)]
  refine ⟨_, rfl, by decide, by decide, fun u u0 u1 => ?_⟩
  walk_at "dl"
  refine ⟨by omega, by omega, ?_⟩
  refine compL_each (p := fun _ y => ∃ i : Int, y = .int i ∧ 1 ≤ i ∧ i ≤ 12) (fun d hd R S hR => ?_) fun ys hl hy => ?_
  · obtain ⟨k, hk, rfl⟩ := rangeD_mem hd
    walk_at "dl"
    refine ⟨_, rfl, by decide, by decide, fun w w0 w1 => ?_⟩
    walk_at "dl"
    exact hR _ ⟨_, rfl, by omega, by omega⟩
  rw [List.nil_append]
  have hl' : ys.length ≤ 5 := by rw [hl, rangeD_length]; omega
  have all : ∀ y, y ∈ ys → ∃ i : Int, y = .int i ∧ 1 ≤ i ∧ i ≤ 12 := fun y hm => by
    obtain ⟨j, hj, e⟩ := List.getElem_of_mem hm
    obtain ⟨d, hd⟩ : ∃ d, (rangeD 0 (1 + u).toNat)[j]? = some d := ⟨_, List.getElem?_eq_getElem (by omega)⟩
    exact hy j d y hd (by rw [List.getElem?_eq_getElem hj, e])
  have ez : ys = (ys.map iOf).map .int := by
    rw [List.map_map]
    refine (List.map_id ys).symm.trans (List.map_congr_left fun y hm => ?_)
    obtain ⟨i, rfl, _⟩ := all y hm
    rfl
  refine ⟨ys.map iOf, .inl (by rw [← ez]), by rw [List.length_map]; omega, fun ms m1 m2 m3 => ?_⟩
  rw [List.length_map] at m3
  refine q ms (fun e => ?_) m1 (by omega) fun i hi => by
    obtain ⟨y, hm, rfl⟩ := List.mem_map.mp ((m2 i).mp hi)
    obtain ⟨k, rfl, k1, k2⟩ := all y hm
    rw [iOf_int]
    exact ⟨k1, Int.lt_of_le_of_lt k2 (by decide +kernel)⟩
  subst e
  have l1 : 1 ≤ ys.length := by rw [hl, rangeD_length]; omega
  obtain ⟨y, hm⟩ := List.exists_mem_of_length_pos (l := ys) (by omega)
  exact absurd ((m2 _).mpr (List.mem_map_of_mem hm)) (by simp)
/-- _law_right -/
def b_law_right : SM :=
  (sSeq (sSet 1 (mIf (mCmpT fEq (mCall mRoll (mCons (mVar 0) (mCons (mC (.int 2)) mNil))) (mC (.int 0))) (mCall c_law_great_store (mCons (mVar 0) (mCons (mCall c_law_wild_sizes (mCons (mVar 0) mNil)) mNil))) (mCall c_law_small_store (mCons (mVar 0) (mCons (mC (.int 9)) (mCons (mC (.int 6)) mNil))))))
  (sSeq (sPar 2 3 (mCons (mCall c_law_made_store (mCons (mVar 1) mNil)) (mCons (mCall c_law_small_store (mCons (mVar 0) (mCons (mC (.int 4)) (mCons (mC (.int 3)) mNil)))) mNil)))
  (sSeq (sIf (mOrT (mNotT (mTest (mCall c_law_told_right (mCons (mVar 1) (mCons (mVar 2) mNil))))) (mTest (mEqO "Store" owns true c_Store_eq (mVar 2) (mCall c_law_made_store (mCons (mCall c_law_merged (mCons (mVar 1) mNil)) mNil)))))
  (sRet (mC (.bool false)))
  sNext)
  (sSeq (sIf (mCmpT fNe (mEqO "Store" owns false c_Store_eq (mVar 2) (mCall c_law_made_store (mCons (mVar 3) mNil))) (mCmp fEq (mCall c_law_merged (mCons (mVar 1) mNil)) (mCall c_law_merged (mCons (mVar 3) mNil))))
  (sRet (mC (.bool false)))
  sNext)
  (sSeq (sIf (mOrT (mTest (mEqO "Store" owns false c_Store_eq (mVar 2) (mCall c_law_made_store (mCons (mBin fAdd (mVar 1) (mLst (mCons (mTup (mCons (mBin fPow (mC (.int 10)) (mC (.int 40))) (mCons (mC (.int 1)) mNil))) mNil))) mNil)))) (mCmpT fNe (mDPopN (mProp "Store" c_Store_rooms (mVar 2)) (mBin fPow (mC (.int 10)) (mC (.int 40))) (mC (.int 5))) (mC (.int 5))))
  (sRet (mC (.bool false)))
  sNext)
  (sRet (mAnd (mEqO "Store" owns true c_Store_eq (mVar 2) (mProp "Store" c_Store_runs (mVar 2))) (mAnd (mVal (mNotT (mTest (mEqO "Store" owns false c_Store_eq (mVar 2) (mB fList (mCons (mVar 1) mNil)))))) (mAnd (mEqO "Store" owns true c_Store_eq (mVar 2) (mC .none)) (mVal (mNotT (mTest (mEqO "Store" owns false c_Store_eq (mVar 2) (mStrO "Store" c_Store_str (mVar 2)))))))))))))))
def m_law_right : FM := mFun 1 4 b_law_right
def c_law_right : FM := fun ds Q _ => ds = [.dice] ∧ Q (.bool true)
theorem c_law_right_ok : ∀ ds Q E, c_law_right ds Q E → m_law_right ds Q E := by
  rintro ds Q E ⟨rfl, q⟩
  unfold m_law_right b_law_right
  walk_at "dl"
  refine ⟨_, rfl, by decide, by decide, fun w w0 w1 => ?_⟩
  walk_at "dl"
  have c30 : (10 : Int) ^ 30 < 10 ^ 40 := by decide +kernel
  have c32 : (10 : Int) ^ 32 < 10 ^ 40 := by decide +kernel
  have c200 : (10 : Int) ^ 40 * 1000 < 10 ^ 200 := by decide +kernel
  have c6 : (1000000 : Int) < 10 ^ 32 := by decide +kernel
  apply for_each (good := fun R : Runs => R.length ≤ 6 ∧ ∀ p, p ∈ R → (1 ≤ p.1 ∧ p.1 < 10 ^ 32) ∧ 1 ≤ p.2 ∧ p.2 ≤ 10 ^ 40)
  · intro body
    split
    · refine ⟨rfl, fun ns n0 n1 n2 n3 => ?_⟩
      refine ⟨ns, rfl, n0, by omega, n3, fun R _ h1 h2 => ?_⟩
      exact body R ⟨by omega, h2⟩
    · refine ⟨9, 6, rfl, by decide, by decide, by decide, by decide, fun R h1 h2 _ => ?_⟩
      exact body R ⟨h1, fun p hp => by have := h2 p hp; omega⟩
  intro R hR
  dsimp only
  have c6k : (10 : Int) ^ 40 < 10 ^ 200 := by decide +kernel
  have bM : bndR (mergeT R) := bndR.merge (by omega) fun p hp => by have := hR.2 p hp; exact ⟨⟨by omega, by omega⟩, by omega, by omega⟩
  have lM : (mergeT R).length ≤ 6 := Nat.le_trans (mergeT_len R) hR.1
  have c50 : (10 : Int) ^ 60 * 1000 < 10 ^ 200 := by decide +kernel
  have posR : ∀ p, p ∈ R → 1 ≤ p.2 := fun p hp => (hR.2 p hp).2.1
  have posM : ∀ p, p ∈ mergeT R → 1 ≤ p.2 := fun p hp => (bM.2 p hp).2.1
  have rm : roomsT (mergeT R) = roomsT R := rooms_same posM posR fun k => sumR_merge _ R
  have nm : numT (mergeT R) = numT R := num_merge R
  have nn : 0 ≤ numT R := nnT.num fun p hp => by have := posR p hp; omega
  have nl : numT R < 10 ^ 50 := by
    have h1 := num_len (P := R) (B := 10 ^ 40) fun p hp => (hR.2 p hp).2.2
    have h2 : (R.length : Int) * 10 ^ 40 ≤ 12 * 10 ^ 40 := Int.mul_le_mul_of_nonneg_right (by omega) (by decide +kernel)
    have h3 : (10 : Int) ^ 40 * 12 < 10 ^ 50 := by decide +kernel
    omega
  have c60 : (10 : Int) ^ 50 < 10 ^ 200 := by decide +kernel
  refine ⟨R, rfl, by omega, fun p hp => by have := hR.2 p hp; omega, ?_⟩
  refine ⟨4, 3, rfl, by decide, by decide, by decide, by decide, fun S s1 s2 _ => ?_⟩
  refine ⟨R, rfl, ⟨by omega, hR.2⟩, _, rfl, ?_⟩
  rw [if_neg (by decide)]
  refine ⟨R, rfl, by omega, mergeT R, rfl, by omega, fun p hp => by have := bM.2 p hp; omega, ?_⟩
  rw [merge_merge]
  refine ⟨_, rfl, .inr ⟨_, _, rfl, by decide⟩, mergeT R, _, rfl, .inr ⟨_, rfl, ?_⟩⟩
  rw [decide_eq_true rfl]
  refine ⟨_, rfl, ?_⟩
  rw [if_neg (by decide)]
  have s3 : S.length ≤ 3 := s1
  have b4 : ∀ p, p ∈ S → (1 ≤ p.1 ∧ p.1 < 10 ^ 200) ∧ 1 ≤ p.2 ∧ p.2 < 10 ^ 200 := fun p hp => by
    have := s2 p hp
    have c4 : (4 : Int) < 10 ^ 200 := by decide +kernel
    omega
  refine ⟨S, rfl, by omega, b4, ?_⟩
  refine ⟨_, rfl, .inr ⟨_, _, rfl, by decide⟩, mergeT R, _, rfl, .inr ⟨_, rfl, _, rfl, ?_⟩⟩
  refine ⟨R, rfl, by omega, S, rfl, by omega, ?_⟩
  refine eq_runsL (mergeT R) (mergeT S) ?_
  rw [if_neg (by simp)]
  have pw : CPowD 10 40 := ⟨by decide, by decide⟩
  refine ⟨pw, ?_⟩
  rw [e_fAdd_4]
  refine ⟨by rw [List.length_map, sizeLine_eq]; show R.length + 1 ≤ _; omega, ?_⟩
  rw [show R.map pairD ++ [D.tup [D.int (10 ^ 40), D.int 1]] = (R ++ [((10 : Int) ^ 40, (1 : Int))]).map pairD by rw [List.map_append]; rfl]
  refine ⟨R ++ [((10 : Int) ^ 40, (1 : Int))], rfl, by rw [List.length_append]; show R.length + 1 ≤ 8; omega, fun p hp => ?_, ?_⟩
  · rcases List.mem_append.mp hp with h | h
    · have := hR.2 p h; omega
    · rw [List.mem_singleton] at h
      subst h
      dsimp only
      omega
  refine ⟨_, rfl, .inr ⟨_, _, rfl, by decide⟩, mergeT R, _, rfl, .inr ⟨_, rfl, ?_⟩⟩
  have ne : mergeT R ≠ mergeT (R ++ [((10 : Int) ^ 40, (1 : Int))]) := fun e => by
    have := congrArg numT e
    rw [num_merge, num_merge, num_append] at this
    have one : numT [((10 : Int) ^ 40, (1 : Int))] = 1 := by decide +kernel
    omega
  rw [decide_eq_false ne]
  refine ⟨_, rfl, ?_⟩
  rw [if_neg (by decide)]
  refine ⟨_, rfl, mergeT R, rfl, by omega, _, rfl, pw, ?_, ?_⟩
  · rw [valD_tab, valT_none (fun h => ?_)]
    · rfl
    rw [rm] at h
    obtain ⟨p, hp, e⟩ := roomsK_mem.mp h
    have := hR.2 p hp
    omega
  refine ⟨_, rfl, mergeT R, rfl, ?_⟩
  refine ⟨_, rfl, .inl rfl, mergeT R, _, rfl, .inl ⟨rfl, _, rfl, ?_⟩⟩
  rw [if_pos (by decide)]
  refine ⟨_, rfl, .inl rfl, mergeT R, _, rfl, .inl ⟨rfl, _, rfl, ?_⟩⟩
  rw [if_pos (by decide)]
  refine ⟨_, rfl, .inl rfl, mergeT R, _, rfl, .inl ⟨rfl, _, rfl, ?_⟩⟩
  rw [if_pos (by decide)]
  refine ⟨_, rfl, mergeT R, rfl, by omega, by omega, by omega, _, rfl, ?_⟩
  refine ⟨_, rfl, .inl rfl, mergeT R, _, rfl, .inl ⟨rfl, _, rfl, ?_⟩⟩
  exact q
/-- law -/
def b_law : SM :=
  (sSeq (sFor (mRange1 (mCons (mB fMax2 (mCons (mC (.int 1)) (mCons (mB fMin2 (mCons (mC (.int 6)) (mCons (mB fLen (mCons (mVar 0) mNil)) mNil))) mNil))) mNil)) (gN 1)
  (sSeq (sSet 2 (mCall c_law_dice (mCons (mVar 0) (mCons (mVar 1) mNil))))
    (sFor (mRange1 (mCons (mC (.int 3)) mNil)) (gN 3)
    (sIf (mNotT (mTest (mCall c_law_right (mCons (mVar 2) mNil))))
      (sRet (mC (.bool false)))
      sNext))))
  (sSeq (sSet 4 (mMake "Store" c_Store_init (mCons (mTup (mCons (mC (.int 10)) (mCons (mC (.int 1)) mNil))) (mCons (mTup (mCons (mC (.int 10)) (mCons (mC (.int 1)) mNil))) (mCons (mTup (mCons (mC (.int 7)) (mCons (mC (.int 3)) mNil))) mNil)))))
  (sSeq (sSet 5 (mLst (mCons (mProp "Store" c_Store_runs (mVar 4)) (mCons (mProp "Store" c_Store_number (mVar 4)) (mCons (mProp "Store" c_Store_total (mVar 4)) (mCons (mMeth "Store" "units" c_Store_units (mVar 4) (mCons (mC (.int 6)) mNil)) (mCons (mMeth "Store" "units" c_Store_units (mVar 4) (mCons (mC (.int 2)) mNil)) (mCons (mStrO "Store" c_Store_str (mMake "Store" c_Store_init mNil)) (mCons (mC (.int 40)) mNil)))))))))
  (sRet (mCmp fEq (mVar 5) (mLst (mCons (mTup (mCons (mTup (mCons (mC (.int 10)) (mCons (mC (.int 2)) mNil))) (mCons (mTup (mCons (mC (.int 7)) (mCons (mC (.int 3)) mNil))) mNil))) (mCons (mC (.int 5)) (mCons (mC (.int 41)) (mCons (mC (.int 5)) (mCons (mC (.int 19)) (mCons (mC (.str "store of 0 rooms, 0 runs")) (mCons (mC (.int 40)) mNil)))))))))))))
def m_law : FM := mFun 1 6 b_law
theorem law_true : LawTrue m_law := by
  intro ns hl
  unfold m_law b_law
  walk_at "dl"
  refine ⟨by split <;> omega, by split <;> (try split) <;> omega, ?_⟩
  refine forL_inv (fun _ δ => ∃ a b c, δ = [DV.v (.script ns), a, b, c, .u, .u]) (fun i d δ N hd ⟨a, b, c, hδ⟩ hN => ?_) ⟨_, _, _, rfl⟩ fun δ ⟨a, b, c, hδ⟩ => ?_
  · subst hδ
    obtain ⟨k, hk, rfl⟩ := rangeD_mem (List.mem_of_getElem? hd)
    walk_at "dl"
    refine ⟨ns, k, rfl, ?_⟩
    walk_at "dl"
    refine forL_inv (fun _ δ => ∃ a b, δ = [DV.v (.script ns), a, .v .dice, b, .u, .u]) (fun i d δ N hd ⟨a, b, hδ⟩ hN => ?_) ⟨_, _, rfl⟩ fun δ ⟨a, b, hδ⟩ => ?_
    · subst hδ
      walk_at "dl"
      refine ⟨rfl, _, rfl, ?_⟩
      rw [if_neg (by decide)]
      exact hN _ ⟨_, _, rfl⟩
    · subst hδ
      exact hN _ ⟨_, _, _, rfl⟩
  · subst hδ
    walk_at "dl"
    have bM : ∀ p, p ∈ [((10 : Int), (1 : Int)), (10, 1), (7, 3)] → (1 ≤ p.1 ∧ p.1 < 10 ^ 200) ∧ 1 ≤ p.2 ∧ p.2 < 10 ^ 200 := by decide +kernel
    have mE : mergeT [((10 : Int), (1 : Int)), (10, 1), (7, 3)] = [(10, 2), (7, 3)] := by decide +kernel
    refine init_ok (M := [(10, 1), (10, 1), (7, 3)]) (by decide) bM (by rw [mE]; decide) ?_
    rw [mE]
    have i1 : ∀ s : Int, 1 ≤ s → ∀ p, p ∈ [((10 : Int), (2 : Int)), (7, 3)] → IntMulOk p.2 (p.1 / s) := (show bndR [(10, 2), (7, 3)] from ⟨by decide, by decide +kernel⟩).widN.mul
    refine ⟨rfl, _, rfl, [(10, 2), (7, 3)], rfl, _, rfl, [(10, 2), (7, 3)], rfl, _, rfl, [(10, 2), (7, 3)], rfl, ?_, ?_⟩
    · intro p hp
      simp only [List.mem_cons, List.not_mem_nil, or_false] at hp
      rcases hp with rfl | rfl <;> exact lim200 (by decide) (by decide +kernel) (by decide) (by decide +kernel)
    refine ⟨_, rfl, rfl, [(10, 2), (7, 3)], .int 6, rfl, .inl rfl, i1, ?_⟩
    rw [if_pos (by decide +kernel)]
    refine ⟨_, rfl, rfl, [(10, 2), (7, 3)], .int 2, rfl, .inl rfl, i1, ?_⟩
    rw [if_pos (by decide +kernel)]
    refine init_ok (M := []) (by decide) (fun p hp => by cases hp) (by decide) ?_
    refine ⟨rfl, _, rfl, [], rfl, by decide, by decide +kernel, by decide, _, rfl, ?_⟩
    have e : D.list [D.tup (List.map pairD [(10, 2), (7, 3)]), D.int (numT [(10, 2), (7, 3)]), D.int (totT [(10, 2), (7, 3)]), D.int (spaceT [(10, 2), (7, 3)] (iOf (D.int 6))), D.int (spaceT [(10, 2), (7, 3)] (iOf (D.int 2))), D.str (strR []), D.int 40] = D.list [D.tup [D.tup [D.int 10, D.int 2], D.tup [D.int 7, D.int 3]], D.int 5, D.int 41, D.int 5, D.int 19, D.str (Str.ofString "store of 0 rooms, 0 runs"), D.int 40] := by kernel_rfl
    rw [e]
    exact fEq_same (by decide +kernel) rfl
end DL.Law
set_option Elab.async false
set_option linter.all false
set_option maxRecDepth 100000
set_option maxHeartbeats 4000000
namespace DL.Law
open DL
open PySem PySem.Spec PyProof.Rows L2
variable [TabsC]
structure Txt (K : PySem.W.Frag) (mg : Str → Option Value) where
  C_Row : Addr
  n_Row : PySem.W.nsIn K mainGlobals "Row" = some (some (.ref C_Row))
  g_Row : mg "Row" = some (.ref C_Row)
  cl_Row : Cls K C_Row
  ki_Row : kitAll K C_Row = true
  C_Store : Addr
  n_Store : PySem.W.nsIn K mainGlobals "Store" = some (some (.ref C_Store))
  g_Store : mg "Store" = some (.ref C_Store)
  cl_Store : Cls K C_Store
  ki_Store : kitAll K C_Store = true
  kits : KitOwn K owns
  kback : BackOwn K owns
  no_Row_own_runs : NoAttr K C_Row "own_runs"
  no_Store_own_runs : NoAttr K C_Store "own_runs"
  ff_Store : firstAll K C_Store = true
  fo : FirstOwn K owns
  C_InvalidNumber : Addr
  n_InvalidNumber : PySem.W.nsIn K mainGlobals "InvalidNumber" = some (some (.ref C_InvalidNumber))
  g_InvalidNumber : mg "InvalidNumber" = some (.ref C_InvalidNumber)
  fi_InvalidNumber : Addr
  x_InvalidNumber : OwnX K C_InvalidNumber fi_InvalidNumber "InvalidNumber" "InvalidNumber.__init__" "value" [.type "IndexError", .type "LookupError", .type "Exception", .type "BaseException", .type "object"] "IndexError.__new__"
  xf_InvalidNumber : XfC K C_InvalidNumber
  C_InvalidStore : Addr
  n_InvalidStore : PySem.W.nsIn K mainGlobals "InvalidStore" = some (some (.ref C_InvalidStore))
  g_InvalidStore : mg "InvalidStore" = some (.ref C_InvalidStore)
  xi_InvalidStore : PySem.W.excIn K C_InvalidStore [.type "ValueError", .type "Exception", .type "BaseException", .type "object"] "ValueError.__new__" = true
  kp_InvalidStore : PySem.W.keepIn K (.ref C_InvalidStore) = true
  sb_InvalidStore : PySem.W.subIn K (.ref C_InvalidStore) (.type "BaseException") = some true
  ty_InvalidStore : PySem.W.typeIn K (.ref C_InvalidStore) = some (.type "type")
  f_is_integer : Addr
  d_is_integer : FuncData
  F_is_integer : Fun K "is_integer" "is_integer" s_is_integer f_is_integer d_is_integer
  b_is_integer : Binds K d_is_integer ["value"] []
  m_is_integer : mg "is_integer" = some (.ref f_is_integer)
  k_is_integer : PySem.W.keepIn K (.ref f_is_integer) = true
  f_is_size : Addr
  d_is_size : FuncData
  F_is_size : Fun K "is_size" "is_size" s_is_size f_is_size d_is_size
  b_is_size : Binds K d_is_size ["value"] []
  m_is_size : mg "is_size" = some (.ref f_is_size)
  k_is_size : PySem.W.keepIn K (.ref f_is_size) = true
  f_is_run : Addr
  d_is_run : FuncData
  F_is_run : Fun K "is_run" "is_run" s_is_run f_is_run d_is_run
  b_is_run : Binds K d_is_run ["value"] []
  m_is_run : mg "is_run" = some (.ref f_is_run)
  k_is_run : PySem.W.keepIn K (.ref f_is_run) = true
  f_merged : Addr
  d_merged : FuncData
  F_merged : Fun K "merged" "merged" s_merged f_merged d_merged
  b_merged : Binds K d_merged ["runs"] []
  m_merged : mg "merged" = some (.ref f_merged)
  k_merged : PySem.W.keepIn K (.ref f_merged) = true
  f_Store_init : Addr
  d_Store_init : FuncData
  F_Store_init : Fun K "__init__" "Store.__init__" s_Store_init f_Store_init d_Store_init
  b_Store_init : ∀ us rest : List Value, us.length = (["self"] : List Str).length → bindArgs d_Store_init ⟨us ++ rest, []⟩ = (newTuple rest >>= fun t => pure ((["self"] : List Str).zip us ++ [(("runs" : Str), t)]))
  mk_Store : Mk K C_Store f_Store_init
  f_Store_number : Addr
  d_Store_number : FuncData
  F_Store_number : Fun K "number" "Store.number" s_Store_number f_Store_number d_Store_number
  b_Store_number : Binds K d_Store_number ["self"] []
  p_Store_number : Addr
  pr_Store_number : PropOf K C_Store "number" p_Store_number f_Store_number
  f_Store_str : Addr
  d_Store_str : FuncData
  F_Store_str : Fun K "__str__" "Store.__str__" s_Store_str f_Store_str d_Store_str
  b_Store_str : Binds K d_Store_str ["self"] []
  me_Store_str : Meth K C_Store "__str__" f_Store_str
  f_Store_runs : Addr
  d_Store_runs : FuncData
  F_Store_runs : Fun K "runs" "Store.runs" s_Store_runs f_Store_runs d_Store_runs
  b_Store_runs : Binds K d_Store_runs ["self"] []
  p_Store_runs : Addr
  pr_Store_runs : PropOf K C_Store "runs" p_Store_runs f_Store_runs
  f_Store_total : Addr
  d_Store_total : FuncData
  F_Store_total : Fun K "total" "Store.total" s_Store_total f_Store_total d_Store_total
  b_Store_total : Binds K d_Store_total ["self"] []
  p_Store_total : Addr
  pr_Store_total : PropOf K C_Store "total" p_Store_total f_Store_total
  f_require_size : Addr
  d_require_size : FuncData
  F_require_size : Fun K "require_size" "require_size" s_require_size f_require_size d_require_size
  b_require_size : Binds K d_require_size ["size"] []
  m_require_size : mg "require_size" = some (.ref f_require_size)
  k_require_size : PySem.W.keepIn K (.ref f_require_size) = true
  f_space_in : Addr
  d_space_in : FuncData
  F_space_in : Fun K "space_in" "space_in" s_space_in f_space_in d_space_in
  b_space_in : Binds K d_space_in ["runs", "size"] []
  m_space_in : mg "space_in" = some (.ref f_space_in)
  k_space_in : PySem.W.keepIn K (.ref f_space_in) = true
  f_Store_units : Addr
  d_Store_units : FuncData
  F_Store_units : Fun K "units" "Store.units" s_Store_units f_Store_units d_Store_units
  b_Store_units : Binds K d_Store_units ["self", "size"] []
  me_Store_units : Meth K C_Store "units" f_Store_units
  f_law_dice : Addr
  d_law_dice : FuncData
  F_law_dice : Fun K "_law_dice" "_law_dice" s_law_dice f_law_dice d_law_dice
  b_law_dice : Binds K d_law_dice ["script", "spot"] []
  m_law_dice : mg "_law_dice" = some (.ref f_law_dice)
  k_law_dice : PySem.W.keepIn K (.ref f_law_dice) = true
  f_Store_eq : Addr
  d_Store_eq : FuncData
  F_Store_eq : Fun K "__eq__" "Store.__eq__" s_Store_eq f_Store_eq d_Store_eq
  b_Store_eq : Binds K d_Store_eq ["self", "other"] []
  me_Store_eq : Meth K C_Store "__eq__" f_Store_eq
  f_Store_rooms : Addr
  d_Store_rooms : FuncData
  F_Store_rooms : Fun K "rooms" "Store.rooms" s_Store_rooms f_Store_rooms d_Store_rooms
  b_Store_rooms : Binds K d_Store_rooms ["self"] []
  p_Store_rooms : Addr
  pr_Store_rooms : PropOf K C_Store "rooms" p_Store_rooms f_Store_rooms
  f_law_roll : Addr
  d_law_roll : FuncData
  F_law_roll : Fun K "_law_roll" "_law_roll" s_law_roll f_law_roll d_law_roll
  b_law_roll : Binds K d_law_roll ["dice", "total"] []
  m_law_roll : mg "_law_roll" = some (.ref f_law_roll)
  k_law_roll : PySem.W.keepIn K (.ref f_law_roll) = true
  f_law_great : Addr
  d_law_great : FuncData
  F_law_great : Fun K "_law_great" "_law_great" s_law_great f_law_great d_law_great
  b_law_great : Binds K d_law_great ["dice", "least"] []
  m_law_great : mg "_law_great" = some (.ref f_law_great)
  k_law_great : PySem.W.keepIn K (.ref f_law_great) = true
  f_law_pick : Addr
  d_law_pick : FuncData
  F_law_pick : Fun K "_law_pick" "_law_pick" s_law_pick f_law_pick d_law_pick
  b_law_pick : Binds K d_law_pick ["dice", "items"] []
  m_law_pick : mg "_law_pick" = some (.ref f_law_pick)
  k_law_pick : PySem.W.keepIn K (.ref f_law_pick) = true
  f_law_great_store : Addr
  d_law_great_store : FuncData
  F_law_great_store : Fun K "_law_great_store" "_law_great_store" s_law_great_store f_law_great_store d_law_great_store
  b_law_great_store : Binds K d_law_great_store ["dice", "sizes"] []
  m_law_great_store : mg "_law_great_store" = some (.ref f_law_great_store)
  k_law_great_store : PySem.W.keepIn K (.ref f_law_great_store) = true
  f_law_made_store : Addr
  d_law_made_store : FuncData
  F_law_made_store : Fun K "_law_made_store" "_law_made_store" s_law_made_store f_law_made_store d_law_made_store
  b_law_made_store : Binds K d_law_made_store ["runs"] []
  m_law_made_store : mg "_law_made_store" = some (.ref f_law_made_store)
  k_law_made_store : PySem.W.keepIn K (.ref f_law_made_store) = true
  f_law_merged : Addr
  d_law_merged : FuncData
  F_law_merged : Fun K "_law_merged" "_law_merged" s_law_merged f_law_merged d_law_merged
  b_law_merged : Binds K d_law_merged ["runs"] []
  m_law_merged : mg "_law_merged" = some (.ref f_law_merged)
  k_law_merged : PySem.W.keepIn K (.ref f_law_merged) = true
  f_law_small_store : Addr
  d_law_small_store : FuncData
  F_law_small_store : Fun K "_law_small_store" "_law_small_store" s_law_small_store f_law_small_store d_law_small_store
  b_law_small_store : Binds K d_law_small_store ["dice", "greatest", "most"] []
  m_law_small_store : mg "_law_small_store" = some (.ref f_law_small_store)
  k_law_small_store : PySem.W.keepIn K (.ref f_law_small_store) = true
  f_Store_contains : Addr
  d_Store_contains : FuncData
  F_Store_contains : Fun K "__contains__" "Store.__contains__" s_Store_contains f_Store_contains d_Store_contains
  b_Store_contains : Binds K d_Store_contains ["self", "value"] []
  me_Store_contains : Meth K C_Store "__contains__" f_Store_contains
  f_Store_iter : Addr
  d_Store_iter : FuncData
  F_Store_iter : Fun K "__iter__" "Store.__iter__" s_Store_iter f_Store_iter d_Store_iter
  b_Store_iter : Binds K d_Store_iter ["self"] []
  me_Store_iter : Meth K C_Store "__iter__" f_Store_iter
  f_Store_len : Addr
  d_Store_len : FuncData
  F_Store_len : Fun K "__len__" "Store.__len__" s_Store_len f_Store_len d_Store_len
  b_Store_len : Binds K d_Store_len ["self"] []
  me_Store_len : Meth K C_Store "__len__" f_Store_len
  f_Store_greatest : Addr
  d_Store_greatest : FuncData
  F_Store_greatest : Fun K "greatest" "Store.greatest" s_Store_greatest f_Store_greatest d_Store_greatest
  b_Store_greatest : Binds K d_Store_greatest ["self"] []
  p_Store_greatest : Addr
  pr_Store_greatest : PropOf K C_Store "greatest" p_Store_greatest f_Store_greatest
  f_Store_lines : Addr
  d_Store_lines : FuncData
  F_Store_lines : Fun K "lines" "Store.lines" s_Store_lines f_Store_lines d_Store_lines
  b_Store_lines : Binds K d_Store_lines ["self"] []
  p_Store_lines : Addr
  pr_Store_lines : PropOf K C_Store "lines" p_Store_lines f_Store_lines
  f_law_space : Addr
  d_law_space : FuncData
  F_law_space : Fun K "_law_space" "_law_space" s_law_space f_law_space d_law_space
  b_law_space : Binds K d_law_space ["runs", "size"] []
  m_law_space : mg "_law_space" = some (.ref f_law_space)
  k_law_space : PySem.W.keepIn K (.ref f_law_space) = true
  f_law_told_right : Addr
  d_law_told_right : FuncData
  F_law_told_right : Fun K "_law_told_right" "_law_told_right" s_law_told_right f_law_told_right d_law_told_right
  b_law_told_right : Binds K d_law_told_right ["runs", "store"] []
  m_law_told_right : mg "_law_told_right" = some (.ref f_law_told_right)
  k_law_told_right : PySem.W.keepIn K (.ref f_law_told_right) = true
  f_law_long_chain : Addr
  d_law_long_chain : FuncData
  F_law_long_chain : Fun K "_law_long_chain" "_law_long_chain" s_law_long_chain f_law_long_chain d_law_long_chain
  b_law_long_chain : Binds K d_law_long_chain ["dice"] []
  m_law_long_chain : mg "_law_long_chain" = some (.ref f_law_long_chain)
  k_law_long_chain : PySem.W.keepIn K (.ref f_law_long_chain) = true
  f_law_wild_sizes : Addr
  d_law_wild_sizes : FuncData
  F_law_wild_sizes : Fun K "_law_wild_sizes" "_law_wild_sizes" s_law_wild_sizes f_law_wild_sizes d_law_wild_sizes
  b_law_wild_sizes : Binds K d_law_wild_sizes ["dice"] []
  m_law_wild_sizes : mg "_law_wild_sizes" = some (.ref f_law_wild_sizes)
  k_law_wild_sizes : PySem.W.keepIn K (.ref f_law_wild_sizes) = true
  f_law_right : Addr
  d_law_right : FuncData
  F_law_right : Fun K "_law_right" "_law_right" s_law_right f_law_right d_law_right
  b_law_right : Binds K d_law_right ["dice"] []
  m_law_right : mg "_law_right" = some (.ref f_law_right)
  k_law_right : PySem.W.keepIn K (.ref f_law_right) = true
  f_law : Addr
  d_law : FuncData
  F_law : Fun K "law" "law" s_law f_law d_law
  b_law : Binds K d_law ["script"] []
  m_law : mg "law" = some (.ref f_law)
  k_law : PySem.W.keepIn K (.ref f_law) = true
  in_Store : InO K C_Store f_Store_contains
  eq_Store : EqO K C_Store f_Store_eq
  it_Store : IterO K C_Store f_Store_iter
  len_Store : LenO K C_Store f_Store_len
  str_Store : StrO K C_Store f_Store_str
  z_abs : mg "abs" = none
  z_all : mg "all" = none
  z_any : mg "any" = none
  z_bool : mg "bool" = none
  z_int : mg "int" = none
  z_isinstance : mg "isinstance" = none
  z_iter : mg "iter" = none
  z_len : mg "len" = none
  z_list : mg "list" = none
  z_max : mg "max" = none
  z_min : mg "min" = none
  z_range : mg "range" = none
  z_repr : mg "repr" = none
  z_set : mg "set" = none
  z_sorted : mg "sorted" = none
  z_str : mg "str" = none
  z_sum : mg "sum" = none
  z_tuple : mg "tuple" = none
  t_LIMIT : Tok
  g_LIMIT : mg "LIMIT" = some (.int 100000000000000000000000000000000000000000000000000000000000000000000000000000000000000000000000000000000000000000000000000000000000000000000000000000000000000000000000000000000000000000000000000000000 t_LIMIT)
  t_MAX_RUNS : Tok
  g_MAX_RUNS : mg "MAX_RUNS" = some (.int 40 t_MAX_RUNS)
section
variable {P : Program} {w : World} {K : PySem.W.Frag} {mg : Str → Option Value} {base : Heap}
abbrev N_is_integer : List Str := ["value"]
theorem ok_is_integer (T : Txt K mg) : FnD P w K mg base 1 T.f_is_integer c_is_integer := by
  have sc : FnScope N_is_integer ["value"] (defScope s_is_integer) := ⟨rfl, rfl, rfl, by decide +kernel, rfl, by decide +kernel, by decide +kernel⟩
  have hN := sc.nd
  refine FnD.imp (fnD_of (m := b_is_integer) T.F_is_integer sc T.b_is_integer fun cdv A outer s H E hG hr => ?_) c_is_integer_ok
  exact (dss_one (ds_ret (de_and (de_isiT T.kits T.kback (by decide) rfl T.z_isinstance (de_var 0 (pv 0)) rfl T.z_int bt_int) (de_and (de_not (de_isiT T.kits T.kback (by decide) rfl T.z_isinstance (de_var 0 (pv 0)) rfl T.z_bool bt_bool)) (de_one (de_chain op_ltD link_lt op_ltD link_lt (de_neg (de_const (v := V.int 100000000000000000000000000000000000000000000000000000000000000000000000000000000000000000000000000000000000000000000000000000000000000000000000000000000000000000000000000000000000000000000000000000000) (pe_glob rfl T.g_LIMIT ⟨_, rfl⟩) fun _ => .int _)) (de_var 0 (pv 0)) (de_const (v := V.int 100000000000000000000000000000000000000000000000000000000000000000000000000000000000000000000000000000000000000000000000000000000000000000000000000000000000000000000000000000000000000000000000000000000) (pe_glob rfl T.g_LIMIT ⟨_, rfl⟩) fun _ => .int _)))))))
abbrev N_is_size : List Str := ["value"]
theorem ok_is_size (T : Txt K mg) : FnD P w K mg base 2 T.f_is_size c_is_size := by
  have sc : FnScope N_is_size ["value"] (defScope s_is_size) := ⟨rfl, rfl, rfl, by decide +kernel, rfl, by decide +kernel, by decide +kernel⟩
  have hN := sc.nd
  refine FnD.imp (fnD_of (m := b_is_size) T.F_is_size sc T.b_is_size fun cdv A outer s H E hG hr => ?_) c_is_size_ok
  exact (dss_one (ds_ret (de_and (de_call (ok_is_integer T) hG (hr.mono (by decide)) (takes_of rfl rfl rfl rfl) rfl T.m_is_integer T.k_is_integer (da_cons (de_var 0 (pv 0)) da_nil)) (de_one (de_cmp op_geD link_ge (nomark _) (de_var 0 (pv 0)) de_int)))))
abbrev N_is_run : List Str := ["value"]
theorem ok_is_run (T : Txt K mg) : FnD P w K mg base 3 T.f_is_run c_is_run := by
  have sc : FnScope N_is_run ["value"] (defScope s_is_run) := ⟨rfl, rfl, rfl, by decide +kernel, rfl, by decide +kernel, by decide +kernel⟩
  have hN := sc.nd
  refine FnD.imp (fnD_of (m := b_is_run) T.F_is_run sc T.b_is_run fun cdv A outer s H E hG hr => ?_) c_is_run_ok
  exact (dss_one (ds_ret (de_and (de_isiT T.kits T.kback (by decide) rfl T.z_isinstance (de_var 0 (pv 0)) rfl T.z_tuple bt_tuple) (de_and (de_cmp (op_eqD hr.units) link_eq (nomark _) (de_callB call_len link_len rfl T.z_len bt_len (da_cons (DE.up (de_var 0 (pv 0))) da_nil)) de_int) (de_and (de_call (ok_is_size T) hG (hr.mono (by decide)) (takes_of rfl rfl rfl rfl) rfl T.m_is_size T.k_is_size (da_cons (de_ix (fun _ _ => rfl) (de_var 0 (pv 0)) de_int) da_nil)) (de_one (de_call (ok_is_size T) hG (hr.mono (by decide)) (takes_of rfl rfl rfl rfl) rfl T.m_is_size T.k_is_size (da_cons (de_ix (fun _ _ => rfl) (de_var 0 (pv 0)) de_int) da_nil))))))))
abbrev N_merged : List Str := ["runs", "found", "room", "many"]
theorem ok_merged (T : Txt K mg) : FnD P w K mg base 1 T.f_merged c_merged := by
  have sc : FnScope N_merged ["runs"] (defScope s_merged) := ⟨rfl, rfl, rfl, by decide +kernel, rfl, by decide +kernel, by decide +kernel⟩
  have hN := sc.nd
  refine FnD.imp (fnD_of (m := b_merged) T.F_merged sc T.b_merged fun cdv A outer s H E hG hr => ?_) c_merged_ok
  exact (dss_cons (ds_setm 1 hN (df_lst da_nil))
  (dss_cons (ds_for (passes_of rfl) rfl (di_seq (ba := false) (de_var 0 (pv 0))) (dg_tup rfl (dgs_cons (dg_name 2 (pg_name hN rfl (by first | exact .inl rfl | exact .inr rfl))) (dgs_cons (dg_name 3 (pg_name hN rfl (by first | exact .inl rfl | exact .inr rfl))) dgs_nil)))
  (dss_one (ds_if (dt_w (dw_and (dt_cmp (op_neD hr.units) link_ne (nomark _) (de_mut 1 (pv 1)) (DF.de (ba := false) (df_lst da_nil))) (dw_and1 (dt_cmp (op_eqD hr.units) link_eq (nomark _) (de_ix (fun _ _ => rfl) (de_ix (fun _ _ => rfl) (de_mut 1 (pv 1)) (de_neg de_int)) de_int) (de_var 2 (pv 2))))))
    (dss_one (ds_putL 1 (pv 1) (de_neg de_int) (de_tup (da_cons (de_var 2 (pv 2)) (da_cons (de_add (de_ix (fun _ _ => rfl) (de_ix (fun _ _ => rfl) (de_mut 1 (pv 1)) (de_neg de_int)) de_int) (de_var 3 (pv 3))) da_nil)))))
    (dss_one (ds_app 1 (pv 1) (de_tup (da_cons (de_var 2 (pv 2)) (da_cons (de_var 3 (pv 3)) da_nil))))))))
  (dss_frz 1 (dss_one (ds_ret (de_var 1 (pv 1)))))))
abbrev N_Store_init : List Str := ["self", "runs", "run", "found"]
theorem ok_Store_init (T : Txt K mg) : FnM P w K mg base 4 T.f_Store_init c_Store_init := by
  have sc : FnScope N_Store_init ((["self"] : List Str) ++ [("runs" : Str)]) (defScope s_Store_init) := ⟨rfl, rfl, rfl, by decide +kernel, rfl, by decide +kernel, by decide +kernel⟩
  have hN := sc.nd
  refine FnM.imp (fnM_star (m := b_Store_init) T.F_Store_init sc T.b_Store_init (by simp) fun cdv A outer s H E hG hr => ?_) c_Store_init_ok
  exact (dss_one (ds_if (dt_w (dw_and (dt_cmp (op_eqD hr.units) link_eq (nomark _) (de_callB call_len link_len rfl T.z_len bt_len (da_cons (DE.up (de_var 1 (pv 1))) da_nil)) de_int) (dw_and1 (dt_val (de_isiC T.n_Row T.g_Row rfl (by decide) T.ki_Row T.kits (by decide) rfl T.z_isinstance (de_ix (fun _ _ => rfl) (de_var 1 (pv 1)) de_int))))))
  (dss_one (ds_fld 0 T.n_Store T.cl_Store T.no_Store_own_runs (pv 0) (de_fld T.n_Row T.cl_Row T.no_Row_own_runs (de_ix (fun _ _ => rfl) (de_var 1 (pv 1)) de_int))))
  (dss_cons (ds_if (dt_not (dt_val (de_callB (cr_all rfl) link_all rfl T.z_all bt_all (da_cons (DE.up (DF.de (ba := false) (df_comp (own := [("run", 2)]) rfl hN (di_seq (ba := true) (DE.up (de_var 1 (pv 1)))) (blkOk_by (N := N_Store_init) (sc := defScope s_Store_init) (by decide +kernel)) (fun _ _ _ _ _ => (dgw_name 2 (pg_name hN rfl (by first | exact .inl rfl | exact .inr rfl)))) (fun _ _ _ _ _ => dts_nil) (fun _ _ _ _ _ => (de_call (ok_is_run T) hG (hr.mono (by decide)) takes0 rfl T.m_is_run T.k_is_run (da_cons (de_var 2 (pv 2)) da_nil)))))) da_nil))))
    (dss_one (ds_raise0 PySem.F.excBase_ValueError T.xi_InvalidStore T.n_InvalidStore T.g_InvalidStore T.kp_InvalidStore T.sb_InvalidStore T.ty_InvalidStore rfl (takes_of rfl rfl rfl rfl) rfl))
    dss_nil)
    (dss_cons (ds_set 3 hN (de_call (ok_merged T) hG (hr.mono (by decide)) (takes_of rfl rfl rfl rfl) rfl T.m_merged T.k_merged (da_cons (de_var 1 (pv 1)) da_nil)))
    (dss_cons (ds_if (dt_cmp op_gtD link_gt (nomark _) (de_callB call_len link_len rfl T.z_len bt_len (da_cons (DE.up (de_var 3 (pv 3))) da_nil)) (de_const (v := V.int 40) (pe_glob rfl T.g_MAX_RUNS ⟨_, rfl⟩) fun _ => .int _))
    (dss_one (ds_raise0 PySem.F.excBase_ValueError T.xi_InvalidStore T.n_InvalidStore T.g_InvalidStore T.kp_InvalidStore T.sb_InvalidStore T.ty_InvalidStore rfl (takes_of rfl rfl rfl rfl) rfl))
    dss_nil)
    (dss_one (ds_fld 0 T.n_Store T.cl_Store T.no_Store_own_runs (pv 0) (de_callT call_tuple_of link_tuple rfl T.z_tuple bt_tuple (da_cons (DE.up (de_var 3 (pv 3))) da_nil)))))))))
abbrev N_Store_number : List Str := ["self", "room", "many"]
theorem ok_Store_number (T : Txt K mg) : FnD P w K mg base 1 T.f_Store_number c_Store_number := by
  have sc : FnScope N_Store_number ["self"] (defScope s_Store_number) := ⟨rfl, rfl, rfl, by decide +kernel, rfl, by decide +kernel, by decide +kernel⟩
  have hN := sc.nd
  refine FnD.imp (fnD_of (m := b_Store_number) T.F_Store_number sc T.b_Store_number fun cdv A outer s H E hG hr => ?_) c_Store_number_ok
  exact (dss_one (ds_ret (de_callB (cr_sum rfl) link_sum rfl T.z_sum bt_sum (da_cons (DE.up (DF.de (ba := false) (df_comp (own := [("room", 1), ("many", 2)]) rfl hN (di_seq (ba := true) (DE.up (de_fld T.n_Store T.cl_Store T.no_Store_own_runs (de_var 0 (pv 0))))) (blkOk_by (N := N_Store_number) (sc := defScope s_Store_number) (by decide +kernel)) (fun _ _ _ _ _ => (dgw_tup rfl (dgws_cons (dgw_name 1 (pg_name hN rfl (by first | exact .inl rfl | exact .inr rfl))) (dgws_cons (dgw_name 2 (pg_name hN rfl (by first | exact .inl rfl | exact .inr rfl))) dgws_nil)))) (fun _ _ _ _ _ => dts_nil) (fun _ _ _ _ _ => (de_var 2 (pv 2)))))) da_nil))))
abbrev N_Store_str : List Str := ["self"]
theorem ok_Store_str (T : Txt K mg) : FnD P w K mg base 3 T.f_Store_str c_Store_str := by
  have sc : FnScope N_Store_str ["self"] (defScope s_Store_str) := ⟨rfl, rfl, rfl, by decide +kernel, rfl, by decide +kernel, by decide +kernel⟩
  have hN := sc.nd
  refine FnD.imp (fnD_of (m := b_Store_str) T.F_Store_str sc T.b_Store_str fun cdv A outer s H E hG hr => ?_) c_Store_str_ok
  exact (dss_one (ds_ret (de_joined (dj_cons de_str (dj_cons (de_fmt (de_prop T.n_Store T.cl_Store T.pr_Store_number (ok_Store_number T) hG (hr.mono (by decide)) (de_var 0 (pv 0)) rfl)) (dj_cons de_str (dj_cons (de_fmt (de_callB call_len link_len rfl T.z_len bt_len (da_cons (DE.up (de_fld T.n_Store T.cl_Store T.no_Store_own_runs (de_var 0 (pv 0)))) da_nil))) (dj_cons de_str dj_nil))))))))
abbrev N_Store_runs : List Str := ["self"]
theorem ok_Store_runs (T : Txt K mg) : FnD P w K mg base 1 T.f_Store_runs c_Store_runs := by
  have sc : FnScope N_Store_runs ["self"] (defScope s_Store_runs) := ⟨rfl, rfl, rfl, by decide +kernel, rfl, by decide +kernel, by decide +kernel⟩
  have hN := sc.nd
  refine FnD.imp (fnD_of (m := b_Store_runs) T.F_Store_runs sc T.b_Store_runs fun cdv A outer s H E hG hr => ?_) c_Store_runs_ok
  exact (dss_one (ds_ret (de_fld T.n_Store T.cl_Store T.no_Store_own_runs (de_var 0 (pv 0)))))
abbrev N_Store_total : List Str := ["self", "room", "many"]
theorem ok_Store_total (T : Txt K mg) : FnD P w K mg base 1 T.f_Store_total c_Store_total := by
  have sc : FnScope N_Store_total ["self"] (defScope s_Store_total) := ⟨rfl, rfl, rfl, by decide +kernel, rfl, by decide +kernel, by decide +kernel⟩
  have hN := sc.nd
  refine FnD.imp (fnD_of (m := b_Store_total) T.F_Store_total sc T.b_Store_total fun cdv A outer s H E hG hr => ?_) c_Store_total_ok
  exact (dss_one (ds_ret (de_callB (cr_sum rfl) link_sum rfl T.z_sum bt_sum (da_cons (DE.up (DF.de (ba := false) (df_comp (own := [("room", 1), ("many", 2)]) rfl hN (di_seq (ba := true) (DE.up (de_fld T.n_Store T.cl_Store T.no_Store_own_runs (de_var 0 (pv 0))))) (blkOk_by (N := N_Store_total) (sc := defScope s_Store_total) (by decide +kernel)) (fun _ _ _ _ _ => (dgw_tup rfl (dgws_cons (dgw_name 1 (pg_name hN rfl (by first | exact .inl rfl | exact .inr rfl))) (dgws_cons (dgw_name 2 (pg_name hN rfl (by first | exact .inl rfl | exact .inr rfl))) dgws_nil)))) (fun _ _ _ _ _ => dts_nil) (fun _ _ _ _ _ => (de_mul (de_var 1 (pv 1)) (de_var 2 (pv 2))))))) da_nil))))
abbrev N_require_size : List Str := ["size"]
theorem ok_require_size (T : Txt K mg) : FnD P w K mg base 3 T.f_require_size c_require_size := by
  have sc : FnScope N_require_size ["size"] (defScope s_require_size) := ⟨rfl, rfl, rfl, by decide +kernel, rfl, by decide +kernel, by decide +kernel⟩
  have hN := sc.nd
  refine FnD.imp (fnD_of (m := b_require_size) T.F_require_size sc T.b_require_size fun cdv A outer s H E hG hr => ?_) c_require_size_ok
  exact (dss_one (ds_if (dt_not (dt_val (de_call (ok_is_size T) hG (hr.mono (by decide)) (takes_of rfl rfl rfl rfl) rfl T.m_is_size T.k_is_size (da_cons (de_var 0 (pv 0)) da_nil))))
  (dss_one (ds_raise (k := 0) bx_IndexError T.x_InvalidNumber fo_value T.n_InvalidNumber T.g_InvalidNumber rfl (hr.mono (by decide)) (takes_of rfl rfl rfl rfl) (de_var 0 (pv 0)) rfl))
  dss_nil))
abbrev N_space_in : List Str := ["runs", "size", "room", "many"]
theorem ok_space_in (T : Txt K mg) : FnD P w K mg base 1 T.f_space_in c_space_in := by
  have sc : FnScope N_space_in ["runs", "size"] (defScope s_space_in) := ⟨rfl, rfl, rfl, by decide +kernel, rfl, by decide +kernel, by decide +kernel⟩
  have hN := sc.nd
  refine FnD.imp (fnD_of (m := b_space_in) T.F_space_in sc T.b_space_in fun cdv A outer s H E hG hr => ?_) c_space_in_ok
  exact (dss_one (ds_ret (de_callB (cr_sum rfl) link_sum rfl T.z_sum bt_sum (da_cons (DE.up (DF.de (ba := false) (df_comp (own := [("room", 2), ("many", 3)]) rfl hN (di_seq (ba := true) (DE.up (de_var 0 (pv 0)))) (blkOk_by (N := N_space_in) (sc := defScope s_space_in) (by decide +kernel)) (fun _ _ _ _ _ => (dgw_tup rfl (dgws_cons (dgw_name 2 (pg_name hN rfl (by first | exact .inl rfl | exact .inr rfl))) (dgws_cons (dgw_name 3 (pg_name hN rfl (by first | exact .inl rfl | exact .inr rfl))) dgws_nil)))) (fun _ _ _ _ _ => dts_nil) (fun _ _ _ _ _ => (de_mul (de_var 3 (pv 3)) (de_div (de_var 2 (pv 2)) (de_var 1 (pv 1)))))))) da_nil))))
abbrev N_Store_units : List Str := ["self", "size"]
theorem ok_Store_units (T : Txt K mg) : FnD P w K mg base 4 T.f_Store_units c_Store_units := by
  have sc : FnScope N_Store_units ["self", "size"] (defScope s_Store_units) := ⟨rfl, rfl, rfl, by decide +kernel, rfl, by decide +kernel, by decide +kernel⟩
  have hN := sc.nd
  refine FnD.imp (fnD_of (m := b_Store_units) T.F_Store_units sc T.b_Store_units fun cdv A outer s H E hG hr => ?_) c_Store_units_ok
  exact (dss_cons (ds_expr (de_call (ok_require_size T) hG (hr.mono (by decide)) (takes_of rfl rfl rfl rfl) rfl T.m_require_size T.k_require_size (da_cons (de_var 1 (pv 1)) da_nil)))
  (dss_one (ds_ret (de_call (ok_space_in T) hG (hr.mono (by decide)) (takes_of rfl rfl rfl rfl) rfl T.m_space_in T.k_space_in (da_cons (de_fld T.n_Store T.cl_Store T.no_Store_own_runs (de_var 0 (pv 0))) (da_cons (de_var 1 (pv 1)) da_nil))))))
abbrev N_law_dice : List Str := ["script", "spot", "cell", "left"]
theorem ok_law_dice (T : Txt K mg) : FnD P w K mg base 1 T.f_law_dice c_law_dice := by
  have sc : FnScope N_law_dice ["script", "spot"] (defScope s_law_dice) := ⟨rfl, rfl, rfl, by decide +kernel, rfl, by decide +kernel, by decide +kernel⟩
  have hN := sc.nd
  refine FnD.imp (fnD_of (m := b_law_dice) T.F_law_dice sc T.b_law_dice fun cdv A outer s H E hG hr => ?_) c_law_dice_ok
  exact (dss_cons (ds_set 2 hN (de_if (dt_cmp op_ltD link_lt (nomark _) (de_var 1 (pv 1)) (de_callB call_len link_len rfl T.z_len bt_len (da_cons (DE.up (de_var 0 (pv 0))) da_nil))) (de_callT call_int1 link_int rfl T.z_int bt_int (da_cons (DE.up (de_ix (fun _ _ => rfl) (de_var 0 (pv 0)) (de_var 1 (pv 1)))) da_nil)) (de_add (de_mul de_int (de_var 1 (pv 1))) de_int)))
  (dss_cons (ds_set 3 hN (de_mod (de_callB (call_max2 rfl) link_max2 rfl T.z_max bt_max (da_cons (DE.up de_int) (da_cons (DE.up (de_sub (de_callB call_abs link_abs rfl T.z_abs bt_abs (da_cons (DE.up (de_var 2 (pv 2))) da_nil)) (de_pow de_int de_int))) da_nil))) (de_mul (de_pow de_int de_int) (de_pow de_int de_int))))
  (dss_one (ds_ret (de_dice (df_lst (da_cons (de_var 3 (pv 3)) (da_cons (de_add (de_add (de_add (de_mul (de_mod (de_callB call_abs link_abs rfl T.z_abs bt_abs (da_cons (DE.up (de_var 2 (pv 2))) da_nil)) de_int) de_int) (de_mul de_int (de_var 1 (pv 1)))) (de_mul de_int (de_callT call_int1 link_int rfl T.z_int bt_int (da_cons (DE.up (de_cmp op_ltD link_lt (nomark _) (de_var 2 (pv 2)) de_int)) da_nil)))) de_int) (da_cons de_int da_nil)))))))))
abbrev N_Store_eq : List Str := ["self", "other"]
theorem ok_Store_eq (T : Txt K mg) : FnD P w K mg base 1 T.f_Store_eq c_Store_eq := by
  have sc : FnScope N_Store_eq ["self", "other"] (defScope s_Store_eq) := ⟨rfl, rfl, rfl, by decide +kernel, rfl, by decide +kernel, by decide +kernel⟩
  have hN := sc.nd
  refine FnD.imp (fnD_of (m := b_Store_eq) T.F_Store_eq sc T.b_Store_eq fun cdv A outer s H E hG hr => ?_) c_Store_eq_ok
  exact (dss_one (ds_ret (de_and (de_isiC T.n_Store T.g_Store rfl (by decide) T.ki_Store T.kits (by decide) rfl T.z_isinstance (de_var 1 (pv 1))) (de_one (de_cmp (op_eqD hr.units) link_eq (nomark _) (de_fld T.n_Store T.cl_Store T.no_Store_own_runs (de_var 0 (pv 0))) (de_fld T.n_Store T.cl_Store T.no_Store_own_runs (de_var 1 (pv 1))))))))
abbrev N_Store_rooms : List Str := ["self", "found", "room", "many"]
theorem ok_Store_rooms (T : Txt K mg) : FnD P w K mg base 1 T.f_Store_rooms c_Store_rooms := by
  have sc : FnScope N_Store_rooms ["self"] (defScope s_Store_rooms) := ⟨rfl, rfl, rfl, by decide +kernel, rfl, by decide +kernel, by decide +kernel⟩
  have hN := sc.nd
  refine FnD.imp (fnD_of (m := b_Store_rooms) T.F_Store_rooms sc T.b_Store_rooms fun cdv A outer s H E hG hr => ?_) c_Store_rooms_ok
  exact (dss_cons (ds_setm 1 hN df_dnew)
  (dss_cons (ds_for (passes_of rfl) rfl (di_seq (ba := false) (DF.de (ba := false) (df_callB cr_sortP link_sortP rfl T.z_sorted bt_sorted (da_cons (DE.up (de_fld T.n_Store T.cl_Store T.no_Store_own_runs (de_var 0 (pv 0)))) da_nil)))) (dg_tup rfl (dgs_cons (dg_name 2 (pg_name hN rfl (by first | exact .inl rfl | exact .inr rfl))) (dgs_cons (dg_name 3 (pg_name hN rfl (by first | exact .inl rfl | exact .inr rfl))) dgs_nil)))
  (dss_one (ds_put 1 (Nat.lt_of_le_of_lt (Nat.add_le_add_left (by decide : 1 ≤ 65) _) (units65 hr)) (pv 1) (de_var 2 (pv 2)) (de_add (de_dget2 (Nat.lt_of_le_of_lt (Nat.add_le_add_left (by decide : 1 ≤ 65) _) (units65 hr)) (de_mut 1 (pv 1)) (de_var 2 (pv 2)) de_int M2.of) (de_var 3 (pv 3))))))
  (dss_frz 1 (dss_one (ds_ret (de_var 1 (pv 1)))))))
/-! the roll -/
theorem ok_law_roll (T : Txt K mg) : FnD P w K mg base 1 T.f_law_roll mRoll := by
  have sc : FnScope ["dice", "total", "found", "one", "two"] ["dice", "total"] (defScope s_law_roll) := ⟨rfl, rfl, rfl, by decide +kernel, rfl, by decide +kernel, by decide +kernel⟩
  have hN := sc.nd
  refine fnP_of T.F_law_roll sc (sb := spD K mRoll) (fun s us vs H Q E hK r h => ?_) fun cdv A outer s H vs Q E hG hr h => ?_
  · obtain ⟨fo, ds, PP, EK, ht, tb, rs, ⟨n, rfl, hm⟩, q⟩ := id h
    have e : us.length = 2 := by rw [← r.length, rs.length]; rfl
    have b := T.b_law_roll s us hK (by rw [List.append_nil]; exact e)
    rw [List.append_nil] at b
    exact ⟨vs, us, r, by rw [rs.length]; rfl, b, h⟩
  obtain ⟨fo, ds, PP, EK, ht, tb, rs, hm, hq, he⟩ := h
  obtain ⟨n, rfl, h0, h1, hroll⟩ := hm
  obtain ⟨a, rfl, hd⟩ : ∃ a, vs = [.ref a, .int n] ∧ H a = some (diceO a) := by
    cases rs with
    | cons r1 rs => cases rs with
      | cons r2 rs =>
        cases rs
        cases r2
        cases r1 with
        | dice h => exact ⟨_, rfl, sub_le _ _ h⟩
  refine ⟨_, pss_dice (pss_cons (ps_if (pt_cmpR op_gt (pe_ix ix_list (pv 0) pe_int (fun _ _ => rfl)) pe_int (nomark _))
      (pss_cons (ps_set (i := 2) hN rfl (.inl rfl) (pe_op op_mod (pe_callTy call_int1 rfl T.z_int bt_int (pa_cons (pe_ix ix_list (pv 0) pe_int (fun _ _ => rfl)) pa_nil)) (pv 1)))
      (pss_cons (ps_asg (pe_op op_fdiv (pe_ix ix_list (pv 0) pe_int (fun _ _ => rfl)) (pv 1)) (pg_sub (pv 0) pe_int set_list))
      (pss_one (ps_ret (pv 2))))) pss_nil)
    (pss_cons (ps_asg (pe_op op_add (pe_ix ix_list (pv 0) pe_int (fun _ _ => rfl)) pe_int) (pg_sub (pv 0) pe_int set_list))
    (pss_cons (ps_set (i := 3) hN rfl (.inl rfl) (pe_op op_mod (pe_callTy call_int1 rfl T.z_int bt_int (pa_cons (pe_op op_add (pe_ix ix_list (pv 0) pe_int (fun _ _ => rfl)) (pe_op op_mul pe_int (pe_ix ix_list (pv 0) pe_int (fun _ _ => rfl)))) pa_nil)) pe_int))
    (pss_cons (ps_set (i := 4) hN rfl (.inl rfl) (pe_op op_add (pe_op op_mul (pe_op op_mod (pe_callTy call_int1 rfl T.z_int bt_int (pa_cons (pe_op op_add (pe_op op_mul (pv 3) (pv 3)) (pe_op op_mul pe_int (pe_ix ix_list (pv 0) pe_int (fun _ _ => rfl)))) pa_nil)) pe_int) pe_int) (pv 3)))
    (pss_one (ps_ret (pe_op op_mod (pe_callTy call_int1 rfl T.z_int bt_int (pa_cons (pe_op op_fdiv (pv 4) pe_int) pa_nil)) (pv 1)))))))), ?_⟩
  refine ⟨a, hd, fun i j k => ?_⟩
  have back : ∀ (xs : List V) (b : Addr), upd (upd H a (.lst xs)) a (diceO a) b = H b := fun xs b => by
    by_cases e : b = a
    · rw [e, upd_same, hd]
    · rw [upd_ne e, upd_ne e]
  have fin : ∀ (r : Int) (H' : Hp) (xs : List V), H' = upd H a (.lst xs) → 0 ≤ r → r < n → Q (.int r) (upd H' a (diceO a)) := fun r H' xs e q0 q1 => by
    subst e
    exact hq (.int r) (.int r) _ (hroll r q0 q1) (Same.of fun b o z => by rw [back]; exact z) (.int r)
  have lx : ∀ {xs : List V} {H0 : Hp}, SqL K (upd H0 a (.lst xs)) a xs := fun {xs H0} => .of upd_same
  refine ⟨_, rfl, a, [.int i, .int j, .int k], 0, .int i, rfl, rfl, lx, rfl, i, 0, rfl, rfl, _, rfl, ?_⟩
  refine ite2 (fun hi => ?_) fun hi => ?_
  · refine ⟨_, rfl, a, _, 0, .int i, rfl, rfl, lx, rfl, .inl ⟨i, rfl, _, rfl, i, n, rfl, rfl, h0, ?_⟩⟩
    refine ⟨_, rfl, a, _, 0, .int i, rfl, rfl, lx, rfl, _, rfl, i, n, rfl, rfl, ⟨h0, h1⟩, _, rfl, a, _, 0, 0, rfl, rfl, upd_same, rfl, _, rfl, ?_⟩
    refine ⟨_, _, _, upd_same, fin _ _ _ upd_upd (Int.emod_nonneg _ (by omega)) (Int.emod_lt_of_pos _ h0)⟩
  · refine ⟨_, rfl, a, _, 2, .int k, rfl, rfl, lx, rfl, k, 1, rfl, rfl, _, rfl, a, _, 2, 2, rfl, rfl, upd_same, rfl, ?_⟩
    refine ⟨_, rfl, a, [.int i, .int j, .int (k + 1)], 1, .int j, rfl, rfl, lx, rfl, _, rfl, a, [.int i, .int j, .int (k + 1)], 2, .int (k + 1), rfl, rfl, lx, rfl, _, _, rfl, rfl, .inl ⟨by decide, by decide⟩, _, _, rfl, rfl, .inl ⟨_, rfl, _, _, rfl, rfl, (by show (0 : Int) < _; decide), ?_⟩⟩
    have b1 := Int.emod_nonneg (j + 67867967 * (k + 1)) (show (2305843009213693723 : Int) ≠ 0 by decide)
    have b2 := Int.emod_lt_of_pos (j + 67867967 * (k + 1)) (show (0 : Int) < 2305843009213693723 by decide)
    refine ⟨_, rfl, _, rfl, _, _, rfl, rfl, .inl ⟨by omega, by omega⟩, _, rfl, a, [.int i, .int j, .int (k + 1)], 2, .int (k + 1), rfl, rfl, lx, rfl, _, _, rfl, rfl, .inl ⟨by decide, by decide⟩, _, _, rfl, rfl, .inl ⟨_, rfl, _, _, rfl, rfl, (by show (0 : Int) < _; decide), ?_⟩⟩
    refine ⟨_, _, rfl, rfl, .inr ⟨by decide, by decide⟩, _, rfl, _, _, rfl, rfl, ?_⟩
    refine ⟨_, rfl, _, _, rfl, rfl, ⟨by decide, by decide⟩, .inl ⟨_, rfl, _, rfl, _, _, rfl, rfl, h0, ?_⟩⟩
    exact ⟨_, _, _, upd_same, fin _ _ _ upd_upd (Int.emod_nonneg _ (by omega)) (Int.emod_lt_of_pos _ h0)⟩
abbrev N_law_great : List Str := ["dice", "least", "way", "found", "turn"]
theorem ok_law_great (T : Txt K mg) : FnD P w K mg base 2 T.f_law_great c_law_great := by
  have sc : FnScope N_law_great ["dice", "least"] (defScope s_law_great) := ⟨rfl, rfl, rfl, by decide +kernel, rfl, by decide +kernel, by decide +kernel⟩
  have hN := sc.nd
  refine FnD.imp (fnD_of (m := b_law_great) T.F_law_great sc T.b_law_great fun cdv A outer s H E hG hr => ?_) c_law_great_ok
  exact (dss_cons (ds_par 2 3 rfl hN (da_cons (de_call (ok_law_roll T) hG (hr.mono (by decide)) (takes_of rfl rfl rfl rfl) rfl T.m_law_roll T.k_law_roll (da_cons (de_var 0 (pv 0)) (da_cons de_int da_nil))) (da_cons de_int da_nil)))
  (dss_cons (ds_for (passes_of rfl) rfl (di_range1 (ba := false) rfl T.z_range (da_cons (DE.up (de_if (dt_cmp (op_eqD hr.units) link_eq (nomark _) (de_var 2 (pv 2)) de_int) de_int de_int)) da_nil)) (dg_name 4 (pg_name hN rfl (by first | exact .inl rfl | exact .inr rfl)))
  (dss_one (ds_set 3 hN (de_add (de_mul (de_var 3 (pv 3)) de_int) (de_call (ok_law_roll T) hG (hr.mono (by decide)) (takes_of rfl rfl rfl rfl) rfl T.m_law_roll T.k_law_roll (da_cons (de_var 0 (pv 0)) (da_cons de_int da_nil)))))))
  (dss_one (ds_ret (de_add (de_var 1 (pv 1)) (de_if (dt_cmp op_ltD link_lt (nomark _) (de_var 2 (pv 2)) de_int) (de_var 3 (pv 3)) (de_mod (de_var 3 (pv 3)) de_int)))))))
abbrev N_law_pick : List Str := ["dice", "items"]
theorem ok_law_pick (T : Txt K mg) : FnD P w K mg base 2 T.f_law_pick c_law_pick := by
  have sc : FnScope N_law_pick ["dice", "items"] (defScope s_law_pick) := ⟨rfl, rfl, rfl, by decide +kernel, rfl, by decide +kernel, by decide +kernel⟩
  have hN := sc.nd
  refine FnD.imp (fnD_of (m := b_law_pick) T.F_law_pick sc T.b_law_pick fun cdv A outer s H E hG hr => ?_) c_law_pick_ok
  exact (dss_one (ds_ret (de_ix (fun _ _ => rfl) (de_var 1 (pv 1)) (de_call (ok_law_roll T) hG (hr.mono (by decide)) (takes_of rfl rfl rfl rfl) rfl T.m_law_roll T.k_law_roll (da_cons (de_var 0 (pv 0)) (da_cons (de_callB call_len link_len rfl T.z_len bt_len (da_cons (DE.up (de_var 1 (pv 1))) da_nil)) da_nil))))))
abbrev N_law_great_store : List Str := ["dice", "sizes", "found", "turn", "room"]
theorem ok_law_great_store (T : Txt K mg) : FnD P w K mg base 3 T.f_law_great_store c_law_great_store := by
  have sc : FnScope N_law_great_store ["dice", "sizes"] (defScope s_law_great_store) := ⟨rfl, rfl, rfl, by decide +kernel, rfl, by decide +kernel, by decide +kernel⟩
  have hN := sc.nd
  refine FnD.imp (fnD_of (m := b_law_great_store) T.F_law_great_store sc T.b_law_great_store fun cdv A outer s H E hG hr => ?_) c_law_great_store_ok
  exact (dss_cons (ds_setm 2 hN (df_lst da_nil))
  (dss_cons (ds_for (passes_of rfl) rfl (di_range1 (ba := false) rfl T.z_range (da_cons (DE.up (de_add de_int (de_call (ok_law_roll T) hG (hr.mono (by decide)) (takes_of rfl rfl rfl rfl) rfl T.m_law_roll T.k_law_roll (da_cons (de_var 0 (pv 0)) (da_cons de_int da_nil))))) da_nil)) (dg_name 3 (pg_name hN rfl (by first | exact .inl rfl | exact .inr rfl)))
  (dss_cons (ds_set 4 hN (de_add (de_mul (de_call (ok_law_pick T) hG (hr.mono (by decide)) (takes_of rfl rfl rfl rfl) rfl T.m_law_pick T.k_law_pick (da_cons (de_var 0 (pv 0)) (da_cons (de_var 1 (pv 1)) da_nil))) (de_add de_int (de_call (ok_law_roll T) hG (hr.mono (by decide)) (takes_of rfl rfl rfl rfl) rfl T.m_law_roll T.k_law_roll (da_cons (de_var 0 (pv 0)) (da_cons de_int da_nil))))) (de_call (ok_law_roll T) hG (hr.mono (by decide)) (takes_of rfl rfl rfl rfl) rfl T.m_law_roll T.k_law_roll (da_cons (de_var 0 (pv 0)) (da_cons (de_call (ok_law_pick T) hG (hr.mono (by decide)) (takes_of rfl rfl rfl rfl) rfl T.m_law_pick T.k_law_pick (da_cons (de_var 0 (pv 0)) (da_cons (DF.de (ba := false) (df_lst (da_cons de_int (da_cons de_int (da_cons de_int da_nil))))) da_nil))) da_nil)))))
    (dss_one (ds_app 2 (pv 2) (de_tup (da_cons (de_add (de_var 4 (pv 4)) (de_mul (de_call (ok_law_roll T) hG (hr.mono (by decide)) (takes_of rfl rfl rfl rfl) rfl T.m_law_roll T.k_law_roll (da_cons (de_var 0 (pv 0)) (da_cons de_int da_nil))) (de_call (ok_law_pick T) hG (hr.mono (by decide)) (takes_of rfl rfl rfl rfl) rfl T.m_law_pick T.k_law_pick (da_cons (de_var 0 (pv 0)) (da_cons (de_var 1 (pv 1)) da_nil))))) (da_cons (de_call (ok_law_great T) hG (hr.mono (by decide)) (takes_of rfl rfl rfl rfl) rfl T.m_law_great T.k_law_great (da_cons (de_var 0 (pv 0)) (da_cons de_int da_nil))) da_nil)))))))
  (dss_frz 2 (dss_one (ds_ret (de_var 2 (pv 2)))))))
abbrev N_law_made_store : List Str := ["runs", "rest", "one", "two", "three", "four", "five", "six", "seven", "eight"]
theorem ok_law_made_store (T : Txt K mg) : FnD P w K mg base 6 T.f_law_made_store c_law_made_store := by
  have sc : FnScope N_law_made_store ["runs"] (defScope s_law_made_store) := ⟨rfl, rfl, rfl, by decide +kernel, rfl, by decide +kernel, by decide +kernel⟩
  have hN := sc.nd
  refine FnD.imp (fnD_of (m := b_law_made_store) T.F_law_made_store sc T.b_law_made_store fun cdv A outer s H E hG hr => ?_) c_law_made_store_ok
  exact (dss_cons (ds_set 1 hN (de_add (DF.de (ba := false) (df_callT call_list_of link_list rfl T.z_list bt_list (da_cons (DE.up (de_var 0 (pv 0))) da_nil))) (DF.de (ba := false) (df_rep (DF.de (ba := false) (df_lst (da_cons de_none da_nil))) de_int))))
  (dss_cons (ds_asg (de_slice (de_var 1 (pv 1)) do_none (do_some de_int)) (dg_lst rfl (dgs_cons (dg_name 2 (pg_name hN rfl (by first | exact .inl rfl | exact .inr rfl))) (dgs_cons (dg_name 3 (pg_name hN rfl (by first | exact .inl rfl | exact .inr rfl))) (dgs_cons (dg_name 4 (pg_name hN rfl (by first | exact .inl rfl | exact .inr rfl))) (dgs_cons (dg_name 5 (pg_name hN rfl (by first | exact .inl rfl | exact .inr rfl))) (dgs_cons (dg_name 6 (pg_name hN rfl (by first | exact .inl rfl | exact .inr rfl))) (dgs_cons (dg_name 7 (pg_name hN rfl (by first | exact .inl rfl | exact .inr rfl))) (dgs_cons (dg_name 8 (pg_name hN rfl (by first | exact .inl rfl | exact .inr rfl))) (dgs_cons (dg_name 9 (pg_name hN rfl (by first | exact .inl rfl | exact .inr rfl))) dgs_nil))))))))))
  (dss_cons (ds_if (dt_cmp (op_eqD hr.units) link_eq (nomark _) (de_var 0 (pv 0)) (DF.de (ba := false) (df_lst da_nil)))
  (dss_one (ds_ret (DF.de (ba := false) (df_make0 T.n_Store T.mk_Store (ok_Store_init T) hG (hr.mono (by decide)) (takes_of rfl rfl rfl rfl) rfl T.g_Store))))
  dss_nil)
  (dss_cons (ds_if (dt_cmp (op_eqD hr.units) link_eq (nomark _) (de_callB call_len link_len rfl T.z_len bt_len (da_cons (DE.up (de_var 0 (pv 0))) da_nil)) de_int)
  (dss_one (ds_ret (DF.de (ba := false) (df_make T.n_Store T.mk_Store (ok_Store_init T) hG (hr.mono (by decide)) (takes_of rfl rfl rfl rfl) rfl T.g_Store (da_cons (de_var 2 (pv 2)) da_nil)))))
  dss_nil)
  (dss_cons (ds_if (dt_cmp (op_eqD hr.units) link_eq (nomark _) (de_callB call_len link_len rfl T.z_len bt_len (da_cons (DE.up (de_var 0 (pv 0))) da_nil)) de_int)
  (dss_one (ds_ret (DF.de (ba := false) (df_make T.n_Store T.mk_Store (ok_Store_init T) hG (hr.mono (by decide)) (takes_of rfl rfl rfl rfl) rfl T.g_Store (da_cons (de_var 2 (pv 2)) (da_cons (de_var 3 (pv 3)) da_nil))))))
  dss_nil)
  (dss_cons (ds_if (dt_cmp (op_eqD hr.units) link_eq (nomark _) (de_callB call_len link_len rfl T.z_len bt_len (da_cons (DE.up (de_var 0 (pv 0))) da_nil)) de_int)
  (dss_one (ds_ret (DF.de (ba := false) (df_make T.n_Store T.mk_Store (ok_Store_init T) hG (hr.mono (by decide)) (takes_of rfl rfl rfl rfl) rfl T.g_Store (da_cons (de_var 2 (pv 2)) (da_cons (de_var 3 (pv 3)) (da_cons (de_var 4 (pv 4)) da_nil)))))))
  dss_nil)
  (dss_cons (ds_if (dt_cmp (op_eqD hr.units) link_eq (nomark _) (de_callB call_len link_len rfl T.z_len bt_len (da_cons (DE.up (de_var 0 (pv 0))) da_nil)) de_int)
  (dss_one (ds_ret (DF.de (ba := false) (df_make T.n_Store T.mk_Store (ok_Store_init T) hG (hr.mono (by decide)) (takes_of rfl rfl rfl rfl) rfl T.g_Store (da_cons (de_var 2 (pv 2)) (da_cons (de_var 3 (pv 3)) (da_cons (de_var 4 (pv 4)) (da_cons (de_var 5 (pv 5)) da_nil))))))))
  dss_nil)
  (dss_cons (ds_if (dt_cmp (op_eqD hr.units) link_eq (nomark _) (de_callB call_len link_len rfl T.z_len bt_len (da_cons (DE.up (de_var 0 (pv 0))) da_nil)) de_int)
  (dss_one (ds_ret (DF.de (ba := false) (df_make T.n_Store T.mk_Store (ok_Store_init T) hG (hr.mono (by decide)) (takes_of rfl rfl rfl rfl) rfl T.g_Store (da_cons (de_var 2 (pv 2)) (da_cons (de_var 3 (pv 3)) (da_cons (de_var 4 (pv 4)) (da_cons (de_var 5 (pv 5)) (da_cons (de_var 6 (pv 6)) da_nil)))))))))
  dss_nil)
  (dss_cons (ds_if (dt_cmp (op_eqD hr.units) link_eq (nomark _) (de_callB call_len link_len rfl T.z_len bt_len (da_cons (DE.up (de_var 0 (pv 0))) da_nil)) de_int)
  (dss_one (ds_ret (DF.de (ba := false) (df_make T.n_Store T.mk_Store (ok_Store_init T) hG (hr.mono (by decide)) (takes_of rfl rfl rfl rfl) rfl T.g_Store (da_cons (de_var 2 (pv 2)) (da_cons (de_var 3 (pv 3)) (da_cons (de_var 4 (pv 4)) (da_cons (de_var 5 (pv 5)) (da_cons (de_var 6 (pv 6)) (da_cons (de_var 7 (pv 7)) da_nil))))))))))
  dss_nil)
  (dss_cons (ds_if (dt_cmp (op_eqD hr.units) link_eq (nomark _) (de_callB call_len link_len rfl T.z_len bt_len (da_cons (DE.up (de_var 0 (pv 0))) da_nil)) de_int)
  (dss_one (ds_ret (DF.de (ba := false) (df_make T.n_Store T.mk_Store (ok_Store_init T) hG (hr.mono (by decide)) (takes_of rfl rfl rfl rfl) rfl T.g_Store (da_cons (de_var 2 (pv 2)) (da_cons (de_var 3 (pv 3)) (da_cons (de_var 4 (pv 4)) (da_cons (de_var 5 (pv 5)) (da_cons (de_var 6 (pv 6)) (da_cons (de_var 7 (pv 7)) (da_cons (de_var 8 (pv 8)) da_nil)))))))))))
  dss_nil)
  (dss_one (ds_ret (DF.de (ba := false) (df_make T.n_Store T.mk_Store (ok_Store_init T) hG (hr.mono (by decide)) (takes_of rfl rfl rfl rfl) rfl T.g_Store (da_cons (de_var 2 (pv 2)) (da_cons (de_var 3 (pv 3)) (da_cons (de_var 4 (pv 4)) (da_cons (de_var 5 (pv 5)) (da_cons (de_var 6 (pv 6)) (da_cons (de_var 7 (pv 7)) (da_cons (de_var 8 (pv 8)) (da_cons (de_var 9 (pv 9)) da_nil))))))))))))))))))))))
abbrev N_law_merged : List Str := ["runs", "found", "room", "number"]
theorem ok_law_merged (T : Txt K mg) : FnD P w K mg base 1 T.f_law_merged c_law_merged := by
  have sc : FnScope N_law_merged ["runs"] (defScope s_law_merged) := ⟨rfl, rfl, rfl, by decide +kernel, rfl, by decide +kernel, by decide +kernel⟩
  have hN := sc.nd
  refine FnD.imp (fnD_of (m := b_law_merged) T.F_law_merged sc T.b_law_merged fun cdv A outer s H E hG hr => ?_) c_law_merged_ok
  exact (dss_cons (ds_setm 1 hN (df_lst da_nil))
  (dss_cons (ds_for (passes_of rfl) rfl (di_seq (ba := false) (de_var 0 (pv 0))) (dg_tup rfl (dgs_cons (dg_name 2 (pg_name hN rfl (by first | exact .inl rfl | exact .inr rfl))) (dgs_cons (dg_name 3 (pg_name hN rfl (by first | exact .inl rfl | exact .inr rfl))) dgs_nil)))
  (dss_one (ds_if (dt_w (dw_and (dt_cmp (op_neD hr.units) link_ne (nomark _) (de_mut 1 (pv 1)) (DF.de (ba := false) (df_lst da_nil))) (dw_and1 (dt_cmp (op_eqD hr.units) link_eq (nomark _) (de_ix (fun _ _ => rfl) (de_ix (fun _ _ => rfl) (de_mut 1 (pv 1)) (de_neg de_int)) de_int) (de_var 2 (pv 2))))))
    (dss_one (ds_putL 1 (pv 1) (de_neg de_int) (de_tup (da_cons (de_var 2 (pv 2)) (da_cons (de_add (de_ix (fun _ _ => rfl) (de_ix (fun _ _ => rfl) (de_mut 1 (pv 1)) (de_neg de_int)) de_int) (de_var 3 (pv 3))) da_nil)))))
    (dss_one (ds_app 1 (pv 1) (de_tup (da_cons (de_var 2 (pv 2)) (da_cons (de_var 3 (pv 3)) da_nil))))))))
  (dss_frz 1 (dss_one (ds_ret (de_var 1 (pv 1)))))))
abbrev N_law_small_store : List Str := ["dice", "greatest", "most", "found", "turn"]
theorem ok_law_small_store (T : Txt K mg) : FnD P w K mg base 2 T.f_law_small_store c_law_small_store := by
  have sc : FnScope N_law_small_store ["dice", "greatest", "most"] (defScope s_law_small_store) := ⟨rfl, rfl, rfl, by decide +kernel, rfl, by decide +kernel, by decide +kernel⟩
  have hN := sc.nd
  refine FnD.imp (fnD_of (m := b_law_small_store) T.F_law_small_store sc T.b_law_small_store fun cdv A outer s H E hG hr => ?_) c_law_small_store_ok
  exact (dss_cons (ds_setm 3 hN (df_lst da_nil))
  (dss_cons (ds_for (passes_of rfl) rfl (di_range1 (ba := false) rfl T.z_range (da_cons (DE.up (de_add (de_call (ok_law_roll T) hG (hr.mono (by decide)) (takes_of rfl rfl rfl rfl) rfl T.m_law_roll T.k_law_roll (da_cons (de_var 0 (pv 0)) (da_cons (de_var 2 (pv 2)) da_nil))) de_int)) da_nil)) (dg_name 4 (pg_name hN rfl (by first | exact .inl rfl | exact .inr rfl)))
  (dss_one (ds_app 3 (pv 3) (de_tup (da_cons (de_add de_int (de_call (ok_law_roll T) hG (hr.mono (by decide)) (takes_of rfl rfl rfl rfl) rfl T.m_law_roll T.k_law_roll (da_cons (de_var 0 (pv 0)) (da_cons (de_var 1 (pv 1)) da_nil)))) (da_cons de_int da_nil))))))
  (dss_frz 3 (dss_cons (ds_if (dt_cmp (op_eqD hr.units) link_eq (nomark _) (de_call (ok_law_roll T) hG (hr.mono (by decide)) (takes_of rfl rfl rfl rfl) rfl T.m_law_roll T.k_law_roll (da_cons (de_var 0 (pv 0)) (da_cons de_int da_nil))) de_int)
  (dss_one (ds_setm 3 hN (df_lst (da_cons (de_tup (da_cons (de_ix (fun _ _ => rfl) (de_ix (fun _ _ => rfl) (de_var 3 (pv 3)) de_int) de_int) (da_cons (de_callB call_len link_len rfl T.z_len bt_len (da_cons (DE.up (de_var 3 (pv 3))) da_nil)) da_nil))) da_nil))))
  dss_nil)
  (dss_frz 3 (dss_one (ds_ret (de_if (dt_cmp op_gtD link_gt (nomark _) (de_call (ok_law_roll T) hG (hr.mono (by decide)) (takes_of rfl rfl rfl rfl) rfl T.m_law_roll T.k_law_roll (da_cons (de_var 0 (pv 0)) (da_cons de_int da_nil))) de_int) (de_var 3 (pv 3)) (DF.de (ba := false) (df_lst da_nil))))))))))
abbrev N_Store_contains : List Str := ["self", "value", "room", "many"]
theorem ok_Store_contains (T : Txt K mg) : FnD P w K mg base 3 T.f_Store_contains c_Store_contains := by
  have sc : FnScope N_Store_contains ["self", "value"] (defScope s_Store_contains) := ⟨rfl, rfl, rfl, by decide +kernel, rfl, by decide +kernel, by decide +kernel⟩
  have hN := sc.nd
  refine FnD.imp (fnD_of (m := b_Store_contains) T.F_Store_contains sc T.b_Store_contains fun cdv A outer s H E hG hr => ?_) c_Store_contains_ok
  exact (dss_one (ds_ret (de_and (de_call (ok_is_size T) hG (hr.mono (by decide)) (takes_of rfl rfl rfl rfl) rfl T.m_is_size T.k_is_size (da_cons (de_var 1 (pv 1)) da_nil)) (de_one (de_callB (cr_any rfl) link_any rfl T.z_any bt_any (da_cons (DE.up (DF.de (ba := false) (df_comp (own := [("room", 2), ("many", 3)]) rfl hN (di_seq (ba := true) (DE.up (de_fld T.n_Store T.cl_Store T.no_Store_own_runs (de_var 0 (pv 0))))) (blkOk_by (N := N_Store_contains) (sc := defScope s_Store_contains) (by decide +kernel)) (fun _ _ _ _ _ => (dgw_tup rfl (dgws_cons (dgw_name 2 (pg_name hN rfl (by first | exact .inl rfl | exact .inr rfl))) (dgws_cons (dgw_name 3 (pg_name hN rfl (by first | exact .inl rfl | exact .inr rfl))) dgws_nil)))) (fun _ _ _ _ _ => dts_nil) (fun _ _ _ _ _ => (de_cmp (op_eqD hr.units) link_eq (nomark _) (de_var 2 (pv 2)) (de_var 1 (pv 1))))))) da_nil))))))
abbrev N_Store_iter : List Str := ["self"]
theorem ok_Store_iter (T : Txt K mg) : FnI P w K mg base 1 T.f_Store_iter T.C_Store "own_runs" := by
  have sc : FnScope N_Store_iter ["self"] (defScope s_Store_iter) := ⟨rfl, rfl, rfl, by decide +kernel, rfl, by decide +kernel, by decide +kernel⟩
  exact fnI_of (k := 0) T.F_Store_iter sc T.b_Store_iter (by rfl) fun cdv A outer s H => PE.imp (pe_callB call_iterX rfl T.z_iter (by decide +kernel) (pa_cons (pe_fld (pv 0) rfl) pa_nil)) fun σ H1 Q ⟨a, dx, fs, v, h0, ha, hl, q⟩ => ⟨_, h0, a, T.C_Store, dx, fs, v, rfl, ha, T.cl_Store, T.no_Store_own_runs, hl, q⟩
abbrev N_Store_len : List Str := ["self"]
theorem ok_Store_len (T : Txt K mg) : FnD P w K mg base 1 T.f_Store_len c_Store_len := by
  have sc : FnScope N_Store_len ["self"] (defScope s_Store_len) := ⟨rfl, rfl, rfl, by decide +kernel, rfl, by decide +kernel, by decide +kernel⟩
  have hN := sc.nd
  refine FnD.imp (fnD_of (m := b_Store_len) T.F_Store_len sc T.b_Store_len fun cdv A outer s H E hG hr => ?_) c_Store_len_ok
  exact (dss_one (ds_ret (de_callB call_len link_len rfl T.z_len bt_len (da_cons (DE.up (de_fld T.n_Store T.cl_Store T.no_Store_own_runs (de_var 0 (pv 0)))) da_nil))))
abbrev N_Store_greatest : List Str := ["self", "room", "many"]
theorem ok_Store_greatest (T : Txt K mg) : FnD P w K mg base 1 T.f_Store_greatest c_Store_greatest := by
  have sc : FnScope N_Store_greatest ["self"] (defScope s_Store_greatest) := ⟨rfl, rfl, rfl, by decide +kernel, rfl, by decide +kernel, by decide +kernel⟩
  have hN := sc.nd
  refine FnD.imp (fnD_of (m := b_Store_greatest) T.F_Store_greatest sc T.b_Store_greatest fun cdv A outer s H E hG hr => ?_) c_Store_greatest_ok
  exact (dss_one (ds_ret (de_bestD true rfl (Nat.lt_of_le_of_lt (Nat.add_le_add_left (by decide : 1 ≤ 65) _) (units65 hr)) rfl T.z_max (da_cons (DE.up (DF.de (ba := false) (df_comp (own := [("room", 1), ("many", 2)]) rfl hN (di_seq (ba := true) (DE.up (de_fld T.n_Store T.cl_Store T.no_Store_own_runs (de_var 0 (pv 0))))) (blkOk_by (N := N_Store_greatest) (sc := defScope s_Store_greatest) (by decide +kernel)) (fun _ _ _ _ _ => (dgw_tup rfl (dgws_cons (dgw_name 1 (pg_name hN rfl (by first | exact .inl rfl | exact .inr rfl))) (dgws_cons (dgw_name 2 (pg_name hN rfl (by first | exact .inl rfl | exact .inr rfl))) dgws_nil)))) (fun _ _ _ _ _ => dts_nil) (fun _ _ _ _ _ => (de_var 1 (pv 1)))))) da_nil) de_int)))
abbrev N_Store_lines : List Str := ["self", "room", "many"]
theorem ok_Store_lines (T : Txt K mg) : FnD P w K mg base 1 T.f_Store_lines c_Store_lines := by
  have sc : FnScope N_Store_lines ["self"] (defScope s_Store_lines) := ⟨rfl, rfl, rfl, by decide +kernel, rfl, by decide +kernel, by decide +kernel⟩
  have hN := sc.nd
  refine FnD.imp (fnD_of (m := b_Store_lines) T.F_Store_lines sc T.b_Store_lines fun cdv A outer s H E hG hr => ?_) c_Store_lines_ok
  exact (dss_one (ds_ret (de_callT call_tuple_of link_tuple rfl T.z_tuple bt_tuple (da_cons (DE.up (DF.de (ba := false) (df_comp (own := [("room", 1), ("many", 2)]) rfl hN (di_seq (ba := true) (DE.up (de_fld T.n_Store T.cl_Store T.no_Store_own_runs (de_var 0 (pv 0))))) (blkOk_by (N := N_Store_lines) (sc := defScope s_Store_lines) (by decide +kernel)) (fun _ _ _ _ _ => (dgw_tup rfl (dgws_cons (dgw_name 1 (pg_name hN rfl (by first | exact .inl rfl | exact .inr rfl))) (dgws_cons (dgw_name 2 (pg_name hN rfl (by first | exact .inl rfl | exact .inr rfl))) dgws_nil)))) (fun _ _ _ _ _ => dts_nil) (fun _ _ _ _ _ => (de_joined (dj_cons de_str (dj_cons (de_fmt (de_var 1 (pv 1))) (dj_cons de_str (dj_cons (de_fmt (de_var 2 (pv 2))) dj_nil))))))))) da_nil))))
abbrev N_law_space : List Str := ["runs", "size", "room", "number"]
theorem ok_law_space (T : Txt K mg) : FnD P w K mg base 1 T.f_law_space c_law_space := by
  have sc : FnScope N_law_space ["runs", "size"] (defScope s_law_space) := ⟨rfl, rfl, rfl, by decide +kernel, rfl, by decide +kernel, by decide +kernel⟩
  have hN := sc.nd
  refine FnD.imp (fnD_of (m := b_law_space) T.F_law_space sc T.b_law_space fun cdv A outer s H E hG hr => ?_) c_law_space_ok
  exact (dss_one (ds_ret (de_callB (cr_sum rfl) link_sum rfl T.z_sum bt_sum (da_cons (DE.up (DF.de (ba := false) (df_comp (own := [("room", 2), ("number", 3)]) rfl hN (di_seq (ba := true) (DE.up (de_var 0 (pv 0)))) (blkOk_by (N := N_law_space) (sc := defScope s_law_space) (by decide +kernel)) (fun _ _ _ _ _ => (dgw_tup rfl (dgws_cons (dgw_name 2 (pg_name hN rfl (by first | exact .inl rfl | exact .inr rfl))) (dgws_cons (dgw_name 3 (pg_name hN rfl (by first | exact .inl rfl | exact .inr rfl))) dgws_nil)))) (fun _ _ _ _ _ => dts_nil) (fun _ _ _ _ _ => (de_mul (de_var 3 (pv 3)) (de_div (de_var 2 (pv 2)) (de_var 1 (pv 1)))))))) da_nil))))
abbrev N_law_told_right : List Str := ["runs", "store", "due", "total", "room", "many", "number", "rooms", "lines", "told", "text", "wish", "size", "odd", "value"]
theorem ok_law_told_right (T : Txt K mg) : FnD P w K mg base 6 T.f_law_told_right c_law_told_right := by
  have sc : FnScope N_law_told_right ["runs", "store"] (defScope s_law_told_right) := ⟨rfl, rfl, rfl, by decide +kernel, rfl, by decide +kernel, by decide +kernel⟩
  have hN := sc.nd
  refine FnD.imp (fnD_of (m := b_law_told_right) T.F_law_told_right sc T.b_law_told_right fun cdv A outer s H E hG hr => ?_) c_law_told_right_ok
  exact (dss_cons (ds_par 2 3 rfl hN (da_cons (de_call (ok_law_merged T) hG (hr.mono (by decide)) (takes_of rfl rfl rfl rfl) rfl T.m_law_merged T.k_law_merged (da_cons (de_var 0 (pv 0)) da_nil)) (da_cons (de_callB (cr_sum rfl) link_sum rfl T.z_sum bt_sum (da_cons (DE.up (DF.de (ba := false) (df_comp (own := [("room", 4), ("many", 5)]) rfl hN (di_seq (ba := true) (DE.up (de_var 0 (pv 0)))) (blkOk_by (N := N_law_told_right) (sc := defScope s_law_told_right) (by decide +kernel)) (fun _ _ _ _ _ => (dgw_tup rfl (dgws_cons (dgw_name 4 (pg_name hN rfl (by first | exact .inl rfl | exact .inr rfl))) (dgws_cons (dgw_name 5 (pg_name hN rfl (by first | exact .inl rfl | exact .inr rfl))) dgws_nil)))) (fun _ _ _ _ _ => dts_nil) (fun _ _ _ _ _ => (de_mul (de_var 4 (pv 4)) (de_var 5 (pv 5))))))) da_nil)) da_nil)))
  (dss_cons (ds_parvm 6 7 rfl hN (de_callB (cr_sum rfl) link_sum rfl T.z_sum bt_sum (da_cons (DE.up (DF.de (ba := false) (df_comp (own := [("room", 4), ("many", 5)]) rfl hN (di_seq (ba := true) (DE.up (de_var 0 (pv 0)))) (blkOk_by (N := N_law_told_right) (sc := defScope s_law_told_right) (by decide +kernel)) (fun _ _ _ _ _ => (dgw_tup rfl (dgws_cons (dgw_name 4 (pg_name hN rfl (by first | exact .inl rfl | exact .inr rfl))) (dgws_cons (dgw_name 5 (pg_name hN rfl (by first | exact .inl rfl | exact .inr rfl))) dgws_nil)))) (fun _ _ _ _ _ => dts_nil) (fun _ _ _ _ _ => (de_var 5 (pv 5)))))) da_nil)) df_dnew)
  (dss_cons (ds_for (passes_of rfl) rfl (di_seq (ba := false) (DF.de (ba := false) (df_callB cr_sortP link_sortP rfl T.z_sorted bt_sorted (da_cons (DE.up (de_var 0 (pv 0))) da_nil)))) (dg_tup rfl (dgs_cons (dg_name 4 (pg_name hN rfl (by first | exact .inl rfl | exact .inr rfl))) (dgs_cons (dg_name 5 (pg_name hN rfl (by first | exact .inl rfl | exact .inr rfl))) dgs_nil)))
  (dss_one (ds_put 7 (Nat.lt_of_le_of_lt (Nat.add_le_add_left (by decide : 1 ≤ 65) _) (units65 hr)) (pv 7) (de_var 4 (pv 4)) (de_add (de_dget2 (Nat.lt_of_le_of_lt (Nat.add_le_add_left (by decide : 1 ≤ 65) _) (units65 hr)) (de_mut 7 (pv 7)) (de_var 4 (pv 4)) de_int M2.of) (de_var 5 (pv 5))))))
  (dss_frz 7 (dss_cons (ds_set 8 hN (de_callT call_tuple_of link_tuple rfl T.z_tuple bt_tuple (da_cons (DE.up (DF.de (ba := false) (df_comp (own := [("room", 4), ("many", 5)]) rfl hN (di_seq (ba := true) (DE.up (de_var 2 (pv 2)))) (blkOk_by (N := N_law_told_right) (sc := defScope s_law_told_right) (by decide +kernel)) (fun _ _ _ _ _ => (dgw_tup rfl (dgws_cons (dgw_name 4 (pg_name hN rfl (by first | exact .inl rfl | exact .inr rfl))) (dgws_cons (dgw_name 5 (pg_name hN rfl (by first | exact .inl rfl | exact .inr rfl))) dgws_nil)))) (fun _ _ _ _ _ => dts_nil) (fun _ _ _ _ _ => (de_add (de_add (de_add de_str (de_callT call_str_int link_str rfl T.z_str bt_str (da_cons (DE.up (de_var 4 (pv 4))) da_nil))) de_str) (de_callT call_str_int link_str rfl T.z_str bt_str (da_cons (DE.up (de_var 5 (pv 5))) da_nil))))))) da_nil)))
  (dss_cons (ds_set 9 hN (DF.de (ba := false) (df_lst (da_cons (de_prop T.n_Store T.cl_Store T.pr_Store_runs (ok_Store_runs T) hG (hr.mono (by decide)) (de_var 1 (pv 1)) rfl) (da_cons (de_prop T.n_Store T.cl_Store T.pr_Store_lines (ok_Store_lines T) hG (hr.mono (by decide)) (de_var 1 (pv 1)) rfl) (da_cons (de_prop T.n_Store T.cl_Store T.pr_Store_number (ok_Store_number T) hG (hr.mono (by decide)) (de_var 1 (pv 1)) rfl) (da_cons (de_prop T.n_Store T.cl_Store T.pr_Store_total (ok_Store_total T) hG (hr.mono (by decide)) (de_var 1 (pv 1)) rfl) (da_cons (de_prop T.n_Store T.cl_Store T.pr_Store_greatest (ok_Store_greatest T) hG (hr.mono (by decide)) (de_var 1 (pv 1)) rfl) (da_cons (de_prop T.n_Store T.cl_Store T.pr_Store_rooms (ok_Store_rooms T) hG (hr.mono (by decide)) (de_var 1 (pv 1)) rfl) (da_cons (de_lenO T.n_Store T.len_Store (ok_Store_len T) hG (hr.mono (by decide)) rfl T.z_len (de_var 1 (pv 1))) (da_cons (DF.de (ba := false) (df_listO T.n_Store rfl T.it_Store (ok_Store_iter T) T.len_Store (ok_Store_len T) hG (hr.mono (by decide)) (hr.mono (by decide)) rfl T.z_list (de_var 1 (pv 1)))) da_nil)))))))))))
  (dss_cons (ds_set 10 hN (de_add (de_add (de_add (de_add de_str (de_callT call_str_int link_str rfl T.z_str bt_str (da_cons (DE.up (de_var 6 (pv 6))) da_nil))) de_str) (de_callT call_str_int link_str rfl T.z_str bt_str (da_cons (DE.up (de_callB call_len link_len rfl T.z_len bt_len (da_cons (DE.up (de_var 2 (pv 2))) da_nil))) da_nil))) de_str))
  (dss_cons (ds_set 11 hN (DF.de (ba := false) (df_lst (da_cons (de_callT call_tuple_of link_tuple rfl T.z_tuple bt_tuple (da_cons (DE.up (de_var 2 (pv 2))) da_nil)) (da_cons (de_var 8 (pv 8)) (da_cons (de_var 6 (pv 6)) (da_cons (de_var 3 (pv 3)) (da_cons (de_callB (cr_max rfl) link_maxL rfl T.z_max bt_max (da_cons (DE.up (de_add (DF.de (ba := false) (df_comp (own := [("room", 4), ("many", 5)]) rfl hN (di_seq (ba := true) (DE.up (de_var 0 (pv 0)))) (blkOk_by (N := N_law_told_right) (sc := defScope s_law_told_right) (by decide +kernel)) (fun _ _ _ _ _ => (dgw_tup rfl (dgws_cons (dgw_name 4 (pg_name hN rfl (by first | exact .inl rfl | exact .inr rfl))) (dgws_cons (dgw_name 5 (pg_name hN rfl (by first | exact .inl rfl | exact .inr rfl))) dgws_nil)))) (fun _ _ _ _ _ => dts_nil) (fun _ _ _ _ _ => (de_var 4 (pv 4))))) (DF.de (ba := false) (df_lst (da_cons de_int da_nil))))) da_nil)) (da_cons (de_var 7 (pv 7)) (da_cons (de_callB call_len link_len rfl T.z_len bt_len (da_cons (DE.up (de_var 2 (pv 2))) da_nil)) (da_cons (de_var 2 (pv 2)) da_nil)))))))))))
  (dss_cons (ds_if (dt_w (dw_or (dt_cmp (op_neD hr.units) link_ne (nomark _) (de_repr hG hr.units rfl T.z_repr bt_repr (de_var 9 (pv 9))) (de_repr hG hr.units rfl T.z_repr bt_repr (de_var 11 (pv 11)))) (dw_or1 (dt_cmp (op_neD hr.units) link_ne (nomark _) (de_strO T.n_Store T.str_Store (ok_Store_str T) hG (hr.mono (by decide)) rfl T.z_str (de_var 1 (pv 1))) (de_var 10 (pv 10))))))
  (dss_one (ds_ret de_bool))
  dss_nil)
  (dss_cons (ds_for (passes_of rfl) rfl (di_seq (ba := false) (de_add (DF.de (ba := false) (df_lst (da_cons de_int (da_cons de_int (da_cons de_int (da_cons de_int (da_cons (de_pow de_int de_int) da_nil))))))) (DF.de (ba := false) (df_comp (own := [("room", 4), ("many", 5)]) rfl hN (di_seq (ba := true) (DE.up (de_var 0 (pv 0)))) (blkOk_by (N := N_law_told_right) (sc := defScope s_law_told_right) (by decide +kernel)) (fun _ _ _ _ _ => (dgw_tup rfl (dgws_cons (dgw_name 4 (pg_name hN rfl (by first | exact .inl rfl | exact .inr rfl))) (dgws_cons (dgw_name 5 (pg_name hN rfl (by first | exact .inl rfl | exact .inr rfl))) dgws_nil)))) (fun _ _ _ _ _ => dts_nil) (fun _ _ _ _ _ => (de_var 4 (pv 4))))))) (dg_name 12 (pg_name hN rfl (by first | exact .inl rfl | exact .inr rfl)))
  (dss_one (ds_if (dt_w (dw_or (dt_cmp (op_neD hr.units) link_ne (nomark _) (de_repr hG hr.units rfl T.z_repr bt_repr (de_meth T.n_Store T.cl_Store (ok_Store_units T) T.me_Store_units hG (hr.mono (by decide)) (takes_of rfl rfl rfl rfl) (de_var 1 (pv 1)) rfl (da_cons (de_var 12 (pv 12)) da_nil))) (de_repr hG hr.units rfl T.z_repr bt_repr (de_call (ok_law_space T) hG (hr.mono (by decide)) (takes_of rfl rfl rfl rfl) rfl T.m_law_space T.k_law_space (da_cons (de_var 0 (pv 0)) (da_cons (de_var 12 (pv 12)) da_nil))))) (dw_or1 (dt_cmp (op_neD hr.units) link_ne (nomark _) (de_inO T.n_Store T.in_Store (ok_Store_contains T) hG (hr.mono (by decide)) rfl (de_var 12 (pv 12)) (de_var 1 (pv 1))) (de_cmp (op_inY (units65 hr)) link_inY rfl (de_var 12 (pv 12)) (de_var 7 (pv 7)))))))
    (dss_one (ds_ret de_bool))
    dss_nil)))
  (dss_cons (ds_set 13 hN (DF.de (ba := false) (df_lst (da_cons de_none (da_cons de_int (da_cons (de_neg de_int) (da_cons de_str (da_cons (de_tup (da_cons de_int (da_cons de_int da_nil))) (da_cons (DF.de (ba := false) (df_lst da_nil)) (da_cons (DF.de (ba := false) df_dnew) (da_cons de_bool (da_cons (de_var 1 (pv 1)) (da_cons (de_var 2 (pv 2)) da_nil)))))))))))))
  (dss_one (ds_ret (de_cmp (op_eqD hr.units) link_eq (nomark _) (DF.de (ba := false) (df_comp (own := [("value", 14)]) rfl hN (di_seq (ba := true) (DE.up (de_var 13 (pv 13)))) (blkOk_by (N := N_law_told_right) (sc := defScope s_law_told_right) (by decide +kernel)) (fun _ _ _ _ _ => (dgw_name 14 (pg_name hN rfl (by first | exact .inl rfl | exact .inr rfl)))) (fun _ _ _ _ _ => (dts_one (dt_inO T.n_Store T.in_Store (ok_Store_contains T) hG (hr.mono (by decide)) rfl (de_var 14 (pv 14)) (de_var 1 (pv 1))))) (fun _ _ _ _ _ => (de_var 14 (pv 14))))) (DF.de (ba := false) (df_lst da_nil))))))))))))))))
abbrev N_law_long_chain : List Str := ["dice", "found", "turn", "step"]
theorem ok_law_long_chain (T : Txt K mg) : FnD P w K mg base 2 T.f_law_long_chain c_law_long_chain := by
  have sc : FnScope N_law_long_chain ["dice"] (defScope s_law_long_chain) := ⟨rfl, rfl, rfl, by decide +kernel, rfl, by decide +kernel, by decide +kernel⟩
  have hN := sc.nd
  refine FnD.imp (fnD_of (m := b_law_long_chain) T.F_law_long_chain sc T.b_law_long_chain fun cdv A outer s H E hG hr => ?_) c_law_long_chain_ok
  exact (dss_cons (ds_setm 1 hN (df_lst (da_cons (de_add de_int (de_call (ok_law_roll T) hG (hr.mono (by decide)) (takes_of rfl rfl rfl rfl) rfl T.m_law_roll T.k_law_roll (da_cons (de_var 0 (pv 0)) (da_cons de_int da_nil)))) da_nil)))
  (dss_cons (ds_for (passes_of rfl) rfl (di_range1 (ba := false) rfl T.z_range (da_cons (DE.up (de_call (ok_law_roll T) hG (hr.mono (by decide)) (takes_of rfl rfl rfl rfl) rfl T.m_law_roll T.k_law_roll (da_cons (de_var 0 (pv 0)) (da_cons de_int da_nil)))) da_nil)) (dg_name 2 (pg_name hN rfl (by first | exact .inl rfl | exact .inr rfl)))
  (dss_cons (ds_set 3 hN (de_if (dt_cmp op_gtD link_gt (nomark _) (de_call (ok_law_roll T) hG (hr.mono (by decide)) (takes_of rfl rfl rfl rfl) rfl T.m_law_roll T.k_law_roll (da_cons (de_var 0 (pv 0)) (da_cons de_int da_nil))) de_int) (de_add de_int (de_call (ok_law_roll T) hG (hr.mono (by decide)) (takes_of rfl rfl rfl rfl) rfl T.m_law_roll T.k_law_roll (da_cons (de_var 0 (pv 0)) (da_cons de_int da_nil)))) (de_add de_int (de_call (ok_law_roll T) hG (hr.mono (by decide)) (takes_of rfl rfl rfl rfl) rfl T.m_law_roll T.k_law_roll (da_cons (de_var 0 (pv 0)) (da_cons de_int da_nil))))))
    (dss_one (ds_app 1 (pv 1) (de_mul (de_ix (fun _ _ => rfl) (de_mut 1 (pv 1)) (de_neg de_int)) (de_var 3 (pv 3)))))))
  (dss_frz 1 (dss_one (ds_ret (de_callT call_tuple_of link_tuple rfl T.z_tuple bt_tuple (da_cons (DE.up (de_var 1 (pv 1))) da_nil)))))))
abbrev N_law_wild_sizes : List Str := ["dice", "turn"]
theorem ok_law_wild_sizes (T : Txt K mg) : FnD P w K mg base 3 T.f_law_wild_sizes c_law_wild_sizes := by
  have sc : FnScope N_law_wild_sizes ["dice"] (defScope s_law_wild_sizes) := ⟨rfl, rfl, rfl, by decide +kernel, rfl, by decide +kernel, by decide +kernel⟩
  have hN := sc.nd
  refine FnD.imp (fnD_of (m := b_law_wild_sizes) T.F_law_wild_sizes sc T.b_law_wild_sizes fun cdv A outer s H E hG hr => ?_) c_law_wild_sizes_ok
  exact (dss_cons (ds_if (dt_cmp (op_eqD hr.units) link_eq (nomark _) (de_call (ok_law_roll T) hG (hr.mono (by decide)) (takes_of rfl rfl rfl rfl) rfl T.m_law_roll T.k_law_roll (da_cons (de_var 0 (pv 0)) (da_cons de_int da_nil))) de_int)
  (dss_one (ds_ret (de_call (ok_law_long_chain T) hG (hr.mono (by decide)) (takes_of rfl rfl rfl rfl) rfl T.m_law_long_chain T.k_law_long_chain (da_cons (de_var 0 (pv 0)) da_nil))))
  dss_nil)
  (dss_one (ds_ret (de_callT call_tuple_of link_tuple rfl T.z_tuple bt_tuple (da_cons (DE.up (DF.de (ba := false) (df_sortSet rfl rfl T.z_sorted bt_sorted rfl T.z_set bt_set (da_cons (DE.up (DF.de (ba := false) (df_comp (own := [("turn", 1)]) rfl hN (di_range1 (ba := true) rfl T.z_range (da_cons (DE.up (de_add de_int (de_call (ok_law_roll T) hG (hr.mono (by decide)) (takes_of rfl rfl rfl rfl) rfl T.m_law_roll T.k_law_roll (da_cons (de_var 0 (pv 0)) (da_cons de_int da_nil))))) da_nil)) (blkOk_by (N := N_law_wild_sizes) (sc := defScope s_law_wild_sizes) (by decide +kernel)) (fun _ _ _ _ _ => (dgw_name 1 (pg_name hN rfl (by first | exact .inl rfl | exact .inr rfl)))) (fun _ _ _ _ _ => dts_nil) (fun _ _ _ _ _ => (de_add de_int (de_call (ok_law_roll T) hG (hr.mono (by decide)) takes0 rfl T.m_law_roll T.k_law_roll (da_cons (de_var 0 (pv 0)) (da_cons de_int da_nil)))))))) da_nil)))) da_nil)))))
abbrev N_law_right : List Str := ["dice", "runs", "store", "other"]
theorem ok_law_right (T : Txt K mg) : FnD P w K mg base 7 T.f_law_right c_law_right := by
  have sc : FnScope N_law_right ["dice"] (defScope s_law_right) := ⟨rfl, rfl, rfl, by decide +kernel, rfl, by decide +kernel, by decide +kernel⟩
  have hN := sc.nd
  refine FnD.imp (fnD_of (m := b_law_right) T.F_law_right sc T.b_law_right fun cdv A outer s H E hG hr => ?_) c_law_right_ok
  exact (dss_cons (ds_set 1 hN (de_if (dt_cmp (op_eqD hr.units) link_eq (nomark _) (de_call (ok_law_roll T) hG (hr.mono (by decide)) (takes_of rfl rfl rfl rfl) rfl T.m_law_roll T.k_law_roll (da_cons (de_var 0 (pv 0)) (da_cons de_int da_nil))) de_int) (de_call (ok_law_great_store T) hG (hr.mono (by decide)) (takes_of rfl rfl rfl rfl) rfl T.m_law_great_store T.k_law_great_store (da_cons (de_var 0 (pv 0)) (da_cons (de_call (ok_law_wild_sizes T) hG (hr.mono (by decide)) (takes_of rfl rfl rfl rfl) rfl T.m_law_wild_sizes T.k_law_wild_sizes (da_cons (de_var 0 (pv 0)) da_nil)) da_nil))) (de_call (ok_law_small_store T) hG (hr.mono (by decide)) (takes_of rfl rfl rfl rfl) rfl T.m_law_small_store T.k_law_small_store (da_cons (de_var 0 (pv 0)) (da_cons de_int (da_cons de_int da_nil))))))
  (dss_cons (ds_par 2 3 rfl hN (da_cons (de_call (ok_law_made_store T) hG (hr.mono (by decide)) (takes_of rfl rfl rfl rfl) rfl T.m_law_made_store T.k_law_made_store (da_cons (de_var 1 (pv 1)) da_nil)) (da_cons (de_call (ok_law_small_store T) hG (hr.mono (by decide)) (takes_of rfl rfl rfl rfl) rfl T.m_law_small_store T.k_law_small_store (da_cons (de_var 0 (pv 0)) (da_cons de_int (da_cons de_int da_nil)))) da_nil)))
  (dss_cons (ds_if (dt_w (dw_or (dt_not (dt_val (de_call (ok_law_told_right T) hG (hr.mono (by decide)) (takes_of rfl rfl rfl rfl) rfl T.m_law_told_right T.k_law_told_right (da_cons (de_var 1 (pv 1)) (da_cons (de_var 2 (pv 2)) da_nil))))) (dw_or1 (dt_neO T.n_Store T.eq_Store T.ff_Store T.fo T.kits (by decide) (ok_Store_eq T) hG (hr.mono (by decide)) (nomark _) (de_var 2 (pv 2)) (de_call (ok_law_made_store T) hG (hr.mono (by decide)) (takes_of rfl rfl rfl rfl) rfl T.m_law_made_store T.k_law_made_store (da_cons (de_call (ok_law_merged T) hG (hr.mono (by decide)) (takes_of rfl rfl rfl rfl) rfl T.m_law_merged T.k_law_merged (da_cons (de_var 1 (pv 1)) da_nil)) da_nil))))))
  (dss_one (ds_ret de_bool))
  dss_nil)
  (dss_cons (ds_if (dt_cmp (op_neD hr.units) link_ne (nomark _) (de_eqO T.n_Store T.eq_Store T.ff_Store T.fo T.kits (by decide) (ok_Store_eq T) hG (hr.mono (by decide)) (nomark _) (de_var 2 (pv 2)) (de_call (ok_law_made_store T) hG (hr.mono (by decide)) (takes_of rfl rfl rfl rfl) rfl T.m_law_made_store T.k_law_made_store (da_cons (de_var 3 (pv 3)) da_nil))) (de_cmp (op_eqD hr.units) link_eq (nomark _) (de_call (ok_law_merged T) hG (hr.mono (by decide)) (takes_of rfl rfl rfl rfl) rfl T.m_law_merged T.k_law_merged (da_cons (de_var 1 (pv 1)) da_nil)) (de_call (ok_law_merged T) hG (hr.mono (by decide)) (takes_of rfl rfl rfl rfl) rfl T.m_law_merged T.k_law_merged (da_cons (de_var 3 (pv 3)) da_nil))))
  (dss_one (ds_ret de_bool))
  dss_nil)
  (dss_cons (ds_if (dt_w (dw_or (dt_eqO T.n_Store T.eq_Store T.ff_Store T.fo T.kits (by decide) (ok_Store_eq T) hG (hr.mono (by decide)) (nomark _) (de_var 2 (pv 2)) (de_call (ok_law_made_store T) hG (hr.mono (by decide)) (takes_of rfl rfl rfl rfl) rfl T.m_law_made_store T.k_law_made_store (da_cons (de_add (de_var 1 (pv 1)) (DF.de (ba := false) (df_lst (da_cons (de_tup (da_cons (de_pow de_int de_int) (da_cons de_int da_nil))) da_nil)))) da_nil))) (dw_or1 (dt_cmp (op_neD hr.units) link_ne (nomark _) (de_dpopN (de_prop T.n_Store T.cl_Store T.pr_Store_rooms (ok_Store_rooms T) hG (hr.mono (by decide)) (de_var 2 (pv 2)) rfl) (de_pow de_int de_int) de_int M2.of) de_int))))
  (dss_one (ds_ret de_bool))
  dss_nil)
  (dss_one (ds_ret (de_and (de_neO T.n_Store T.eq_Store T.ff_Store T.fo T.kits (by decide) (ok_Store_eq T) hG (hr.mono (by decide)) (nomark _) (de_var 2 (pv 2)) (de_prop T.n_Store T.cl_Store T.pr_Store_runs (ok_Store_runs T) hG (hr.mono (by decide)) (de_var 2 (pv 2)) rfl)) (de_and (de_not (de_eqO T.n_Store T.eq_Store T.ff_Store T.fo T.kits (by decide) (ok_Store_eq T) hG (hr.mono (by decide)) (nomark _) (de_var 2 (pv 2)) (DF.de (ba := false) (df_callT call_list_of link_list rfl T.z_list bt_list (da_cons (DE.up (de_var 1 (pv 1))) da_nil))))) (de_and (de_neO T.n_Store T.eq_Store T.ff_Store T.fo T.kits (by decide) (ok_Store_eq T) hG (hr.mono (by decide)) (nomark _) (de_var 2 (pv 2)) de_none) (de_one (de_not (de_eqO T.n_Store T.eq_Store T.ff_Store T.fo T.kits (by decide) (ok_Store_eq T) hG (hr.mono (by decide)) (nomark _) (de_var 2 (pv 2)) (de_strO T.n_Store T.str_Store (ok_Store_str T) hG (hr.mono (by decide)) rfl T.z_str (de_var 2 (pv 2))))))))))))))))
abbrev N_law : List Str := ["script", "spot", "dice", "turn", "shelves", "told"]
theorem ok_law (T : Txt K mg) : FnD P w K mg base 8 T.f_law m_law := by
  have sc : FnScope N_law ["script"] (defScope s_law) := ⟨rfl, rfl, rfl, by decide +kernel, rfl, by decide +kernel, by decide +kernel⟩
  have hN := sc.nd
  refine (fnD_of (m := b_law) T.F_law sc T.b_law fun cdv A outer s H E hG hr => ?_)
  exact (dss_cons (ds_for (passes_of rfl) rfl (di_range1 (ba := false) rfl T.z_range (da_cons (DE.up (de_callB (call_max2 rfl) link_max2 rfl T.z_max bt_max (da_cons (DE.up de_int) (da_cons (DE.up (de_callB (call_min2 rfl) link_min2 rfl T.z_min bt_min (da_cons (DE.up de_int) (da_cons (DE.up (de_callB call_len link_len rfl T.z_len bt_len (da_cons (DE.up (de_var 0 (pv 0))) da_nil))) da_nil)))) da_nil)))) da_nil)) (dg_name 1 (pg_name hN rfl (by first | exact .inl rfl | exact .inr rfl)))
  (dss_cons (ds_set 2 hN (de_call (ok_law_dice T) hG (hr.mono (by decide)) (takes_of rfl rfl rfl rfl) rfl T.m_law_dice T.k_law_dice (da_cons (de_var 0 (pv 0)) (da_cons (de_var 1 (pv 1)) da_nil))))
    (dss_one (ds_for (passes_of rfl) rfl (di_range1 (ba := false) rfl T.z_range (da_cons (DE.up de_int) da_nil)) (dg_name 3 (pg_name hN rfl (by first | exact .inl rfl | exact .inr rfl)))
    (dss_one (ds_if (dt_not (dt_val (de_call (ok_law_right T) hG (hr.mono (by decide)) (takes_of rfl rfl rfl rfl) rfl T.m_law_right T.k_law_right (da_cons (de_var 2 (pv 2)) da_nil))))
      (dss_one (ds_ret de_bool))
      dss_nil))))))
  (dss_cons (ds_set 4 hN (DF.de (ba := false) (df_make T.n_Store T.mk_Store (ok_Store_init T) hG (hr.mono (by decide)) (takes_of rfl rfl rfl rfl) rfl T.g_Store (da_cons (de_tup (da_cons de_int (da_cons de_int da_nil))) (da_cons (de_tup (da_cons de_int (da_cons de_int da_nil))) (da_cons (de_tup (da_cons de_int (da_cons de_int da_nil))) da_nil))))))
  (dss_cons (ds_set 5 hN (DF.de (ba := false) (df_lst (da_cons (de_prop T.n_Store T.cl_Store T.pr_Store_runs (ok_Store_runs T) hG (hr.mono (by decide)) (de_var 4 (pv 4)) rfl) (da_cons (de_prop T.n_Store T.cl_Store T.pr_Store_number (ok_Store_number T) hG (hr.mono (by decide)) (de_var 4 (pv 4)) rfl) (da_cons (de_prop T.n_Store T.cl_Store T.pr_Store_total (ok_Store_total T) hG (hr.mono (by decide)) (de_var 4 (pv 4)) rfl) (da_cons (de_meth T.n_Store T.cl_Store (ok_Store_units T) T.me_Store_units hG (hr.mono (by decide)) (takes_of rfl rfl rfl rfl) (de_var 4 (pv 4)) rfl (da_cons de_int da_nil)) (da_cons (de_meth T.n_Store T.cl_Store (ok_Store_units T) T.me_Store_units hG (hr.mono (by decide)) (takes_of rfl rfl rfl rfl) (de_var 4 (pv 4)) rfl (da_cons de_int da_nil)) (da_cons (de_strO T.n_Store T.str_Store (ok_Store_str T) hG (hr.mono (by decide)) rfl T.z_str (DF.de (ba := false) (df_make0 T.n_Store T.mk_Store (ok_Store_init T) hG (hr.mono (by decide)) (takes_of rfl rfl rfl rfl) rfl T.g_Store))) (da_cons (de_const (v := V.int 40) (pe_glob rfl T.g_MAX_RUNS ⟨_, rfl⟩) fun _ => .int _) da_nil))))))))))
  (dss_one (ds_ret (de_cmp (op_eqD hr.units) link_eq (nomark _) (de_var 5 (pv 5)) (DF.de (ba := false) (df_lst (da_cons (de_tup (da_cons (de_tup (da_cons de_int (da_cons de_int da_nil))) (da_cons (de_tup (da_cons de_int (da_cons de_int da_nil))) da_nil))) (da_cons de_int (da_cons de_int (da_cons de_int (da_cons de_int (da_cons de_str (da_cons de_int da_nil)))))))))))))))
end
end DL.Law
set_option Elab.async false
set_option linter.all false
set_option maxRecDepth 100000
set_option maxHeartbeats 4000000
namespace DL.Law
open DL
open PySem PySem.Spec PyProof.Rows L2
variable [TabsC]
theorem all_mk {l : PySem.W.OpenLaw} {w : World} {K : PySem.W.Frag} {h : Heap} {mg : Str → Option Value} {fa CRow CStore CInvalidNumber fiInvalidNumber NInvalidNumber CInvalidStore f0 f1 f2 f3 f4 f5 p5 f6 f7 p7 f8 p8 f9 f10 f11 f12 f13 f14 p14 f15 f16 f17 f18 f19 f20 f21 f22 f23 f24 f25 p25 f26 p26 f27 f28 f29 f30 f31 f32 : Addr} (X : K.In h) (G : h.Ns mainGlobals mg) (hfa : mg "law" = some (.ref fa))
    {odInvalidNumber anInvalidNumber ddInvalidNumber od0 an0 od1 an1 od2 an2 od3 an3 od4 an4 od5 an5 od6 an6 od7 an7 od8 an8 od9 an9 od10 an10 od11 an11 od12 an12 od13 an13 od14 an14 od15 an15 od16 an16 od17 an17 od18 an18 od19 an19 od20 an20 od21 an21 od22 an22 od23 an23 od24 an24 od25 an25 od26 an26 od27 an27 od28 an28 od29 an29 od30 an30 od31 an31 od32 an32 : Option Addr} {slInvalidNumber sl0 sl1 sl2 sl3 sl4 sl5 sl6 sl7 sl8 sl9 sl10 sl11 sl12 sl13 sl14 sl15 sl16 sl17 sl18 sl19 sl20 sl21 sl22 sl23 sl24 sl25 sl26 sl27 sl28 sl29 sl30 sl31 sl32 : Array (Option Value)} {ocInvalidNumber dcInvalidNumber pmInvalidNumber cdInvalidNumber ctInvalidNumber oc0 kV0 dc0 pm0 cd0 ct0 oc1 kV1 dc1 pm1 cd1 ct1 oc2 kV2 dc2 pm2 cd2 ct2 oc3 kV3 dc3 pm3 cd3 ct3 oc4 kV4 dc4 pm4 cd4 ct4 oc5 kV5 dc5 pm5 cd5 ct5 oc6 kV6 dc6 pm6 cd6 ct6 oc7 kV7 dc7 pm7 cd7 ct7 oc8 kV8 dc8 pm8 cd8 ct8 oc9 kV9 dc9 pm9 cd9 ct9 oc10 kV10 dc10 pm10 cd10 ct10 oc11 kV11 dc11 pm11 cd11 ct11 oc12 kV12 dc12 pm12 cd12 ct12 oc13 kV13 dc13 pm13 cd13 ct13 oc14 kV14 dc14 pm14 cd14 ct14 oc15 kV15 dc15 pm15 cd15 ct15 oc16 kV16 dc16 pm16 cd16 ct16 oc17 kV17 dc17 pm17 cd17 ct17 oc18 kV18 dc18 pm18 cd18 ct18 oc19 kV19 dc19 pm19 cd19 ct19 oc20 kV20 dc20 pm20 cd20 ct20 oc21 kV21 dc21 pm21 cd21 ct21 oc22 kV22 dc22 pm22 cd22 ct22 oc23 kV23 dc23 pm23 cd23 ct23 oc24 kV24 dc24 pm24 cd24 ct24 oc25 kV25 dc25 pm25 cd25 ct25 oc26 kV26 dc26 pm26 cd26 ct26 oc27 kV27 dc27 pm27 cd27 ct27 oc28 kV28 dc28 pm28 cd28 ct28 oc29 kV29 dc29 pm29 cd29 ct29 oc30 kV30 dc30 pm30 cd30 ct30 oc31 kV31 dc31 pm31 cd31 ct31 oc32 kV32 dc32 pm32 cd32 ct32 : Value} {t_LIMIT t_MAX_RUNS : Tok} {nmInvalidNumber qqInvalidNumber : Str} {bsInvalidNumber bmInvalidNumber sbInvalidNumber : List Value} {snInvalidNumber : List Str} {abInvalidNumber : Bool} {coInvalidNumber : Option Bool} {e0InvalidNumber e1InvalidNumber e2InvalidNumber e3InvalidNumber e5InvalidNumber : Option Value} {rs5 : List Value} {rs7 : List Value} {rs8 : List Value} {rs14 : List Value} {rs25 : List Value} {rs26 : List Value}
    (n_Row : PySem.W.nsIn K mainGlobals "Row" = some (some (.ref CRow)))
    (ct_Row : insTyB K CRow = true)
    (ki_Row : kitAll K CRow = true)
    (n_Store : PySem.W.nsIn K mainGlobals "Store" = some (some (.ref CStore)))
    (ct_Store : insTyB K CStore = true)
    (ki_Store : kitAll K CStore = true)
    (kk2 : (([("Row", CRow), ("Store", CStore)] : List (Str × Addr)).all fun p => ([("Row", CRow), ("Store", CStore)] : List (Str × Addr)).all fun q => decide (PySem.W.kitOne K (.ref p.2) (.ref q.2) = some (decide (p.1 = q.1)))) = true)
    (kk3 : (([("Row", CRow), ("Store", CStore)] : List (Str × Addr)).all fun p => insTyB K p.2) = true)
    (kk4 : (([("Row", CRow), ("Store", CStore)] : List (Str × Addr)).all fun p => kitBack K p.2) = true)
    (no_Row_own_runs : PySem.W.findIn K (.ref CRow) "own_runs" = some none)
    (no_Store_own_runs : PySem.W.findIn K (.ref CStore) "own_runs" = some none)
    (en_Store : PySem.W.findIn K (.ref CStore) "__ne__" = some (some (.builtin "object.__ne__")))
    (eo_Store : PySem.W.mroIn K CStore (.type "object") = some true)
    (ff_Store : firstAll K CStore = true)
    (fo : (([("Row", CRow), ("Store", CStore)] : List (Str × Addr)).all fun p => ([("Row", CRow), ("Store", CStore)] : List (Str × Addr)).all fun q => PySem.W.notFirst K q.2 (.ref p.2)) = true)
    (n_InvalidNumber : PySem.W.nsIn K mainGlobals "InvalidNumber" = some (some (.ref CInvalidNumber)))
    (xc_InvalidNumber : K.lookup CInvalidNumber = some (excClassObj nmInvalidNumber qqInvalidNumber CInvalidNumber NInvalidNumber bsInvalidNumber bmInvalidNumber true snInvalidNumber sbInvalidNumber abInvalidNumber coInvalidNumber ddInvalidNumber e0InvalidNumber e1InvalidNumber e2InvalidNumber e3InvalidNumber e5InvalidNumber "IndexError.__new__"))
    (xb_InvalidNumber : refsT [.type "IndexError", .type "LookupError", .type "Exception", .type "BaseException", .type "object"] bmInvalidNumber = true)
    (xsa_InvalidNumber : PySem.W.findIn K (.ref CInvalidNumber) "__setattr__" = some (some (.builtin "object.__setattr__")))
    (xga_InvalidNumber : PySem.W.findIn K (.ref CInvalidNumber) "__getattribute__" = some (some (.builtin "BaseException.__getattribute__")))
    (xgg_InvalidNumber : PySem.W.findIn K (.ref CInvalidNumber) "__getattr__" = some none)
    (xno_InvalidNumber : PySem.W.findIn K (.ref CInvalidNumber) "value" = some none)
    (xi_InvalidNumber : PySem.W.findIn K (.ref CInvalidNumber) "__init__" = some (some (.ref fiInvalidNumber)))
    (xt_InvalidNumber : PySem.W.typeIn K (.ref fiInvalidNumber) = some (.type "function"))
    (xk_InvalidNumber : PySem.W.keepIn K (.ref CInvalidNumber) = true)
    (xe_InvalidNumber : PySem.W.subIn K (.ref CInvalidNumber) (.type "BaseException") = some true)
    (xy_InvalidNumber : PySem.W.typeIn K (.ref CInvalidNumber) = some (.type "type"))
    (xh_InvalidNumber : PySem.W.hasDictIn K CInvalidNumber = true)
    (xl_InvalidNumber : K.lookup fiInvalidNumber = some ⟨ocInvalidNumber, odInvalidNumber, .func (PySem.W.fnOf "__init__" "InvalidNumber.__init__" (xA "value" ⟨19, 17, 19, 21⟩ ⟨19, 23, 19, 28⟩) (xB "value" ⟨20, 8, 20, 12⟩ ⟨20, 8, 20, 18⟩ ⟨20, 21, 20, 26⟩ ⟨20, 8, 20, 26⟩) (xS "value") .none .none dcInvalidNumber pmInvalidNumber anInvalidNumber cdInvalidNumber ctInvalidNumber), slInvalidNumber⟩)
    (xcd_InvalidNumber : PySem.W.codeIn K cdInvalidNumber "InvalidNumber.__init__" = true)
    (n_InvalidStore : PySem.W.nsIn K mainGlobals "InvalidStore" = some (some (.ref CInvalidStore)))
    (xi_InvalidStore : PySem.W.excIn K CInvalidStore [.type "ValueError", .type "Exception", .type "BaseException", .type "object"] "ValueError.__new__" = true)
    (kp_InvalidStore : PySem.W.keepIn K (.ref CInvalidStore) = true)
    (sb_InvalidStore : PySem.W.subIn K (.ref CInvalidStore) (.type "BaseException") = some true)
    (ty_InvalidStore : PySem.W.typeIn K (.ref CInvalidStore) = some (.type "type"))
    (a0 : PySem.W.nsIn K mainGlobals "is_integer" = some (some (.ref f0)))
    (l0 : K.lookup f0 = some ⟨oc0, od0, .func (PySem.W.fnOf "is_integer" "is_integer" (defArgs s_is_integer) (defBody s_is_integer) (defScope s_is_integer) .none kV0 dc0 pm0 an0 cd0 ct0), sl0⟩) (c0 : PySem.W.codeIn K cd0 "is_integer" = true) (k0 : PySem.W.keepIn K (.ref f0) = true)
    (a1 : PySem.W.nsIn K mainGlobals "is_size" = some (some (.ref f1)))
    (l1 : K.lookup f1 = some ⟨oc1, od1, .func (PySem.W.fnOf "is_size" "is_size" (defArgs s_is_size) (defBody s_is_size) (defScope s_is_size) .none kV1 dc1 pm1 an1 cd1 ct1), sl1⟩) (c1 : PySem.W.codeIn K cd1 "is_size" = true) (k1 : PySem.W.keepIn K (.ref f1) = true)
    (a2 : PySem.W.nsIn K mainGlobals "is_run" = some (some (.ref f2)))
    (l2 : K.lookup f2 = some ⟨oc2, od2, .func (PySem.W.fnOf "is_run" "is_run" (defArgs s_is_run) (defBody s_is_run) (defScope s_is_run) .none kV2 dc2 pm2 an2 cd2 ct2), sl2⟩) (c2 : PySem.W.codeIn K cd2 "is_run" = true) (k2 : PySem.W.keepIn K (.ref f2) = true)
    (a3 : PySem.W.nsIn K mainGlobals "merged" = some (some (.ref f3)))
    (l3 : K.lookup f3 = some ⟨oc3, od3, .func (PySem.W.fnOf "merged" "merged" (defArgs s_merged) (defBody s_merged) (defScope s_merged) .none kV3 dc3 pm3 an3 cd3 ct3), sl3⟩) (c3 : PySem.W.codeIn K cd3 "merged" = true) (k3 : PySem.W.keepIn K (.ref f3) = true)
    (a4 : PySem.W.findIn K (.ref CStore) "__init__" = some (some (.ref f4)))
    (i4 : PySem.W.isFn K (.ref f4) = true)
    (mi_Store : PySem.W.makesIn K CStore = true)
    (mk_Store : PySem.W.keepIn K (.ref CStore) = true)
    (l4 : K.lookup f4 = some ⟨oc4, od4, .func (PySem.W.fnOf "__init__" "Store.__init__" (defArgs s_Store_init) (defBody s_Store_init) (defScope s_Store_init) .none kV4 dc4 pm4 an4 cd4 ct4), sl4⟩) (c4 : PySem.W.codeIn K cd4 "Store.__init__" = true) (k4 : PySem.W.keepIn K (.ref f4) = true)
    (a5 : PySem.W.findIn K (.ref CStore) "number" = some (some (.ref p5)))
    (pg5 : PySem.W.specialIn K (.ref p5) "__get__" = some (some (.builtin "property.__get__")))
    (pt5 : PySem.W.takesIn K (.ref p5) = some true)
    (pc5 : PySem.W.recIn K p5 "property" = some (.ref f5 :: rs5))
    (l5 : K.lookup f5 = some ⟨oc5, od5, .func (PySem.W.fnOf "number" "Store.number" (defArgs s_Store_number) (defBody s_Store_number) (defScope s_Store_number) .none kV5 dc5 pm5 an5 cd5 ct5), sl5⟩) (c5 : PySem.W.codeIn K cd5 "Store.number" = true) (k5 : PySem.W.keepIn K (.ref f5) = true)
    (a6 : PySem.W.findIn K (.ref CStore) "__str__" = some (some (.ref f6)))
    (i6 : PySem.W.isFn K (.ref f6) = true)
    (l6 : K.lookup f6 = some ⟨oc6, od6, .func (PySem.W.fnOf "__str__" "Store.__str__" (defArgs s_Store_str) (defBody s_Store_str) (defScope s_Store_str) .none kV6 dc6 pm6 an6 cd6 ct6), sl6⟩) (c6 : PySem.W.codeIn K cd6 "Store.__str__" = true) (k6 : PySem.W.keepIn K (.ref f6) = true)
    (a7 : PySem.W.findIn K (.ref CStore) "runs" = some (some (.ref p7)))
    (pg7 : PySem.W.specialIn K (.ref p7) "__get__" = some (some (.builtin "property.__get__")))
    (pt7 : PySem.W.takesIn K (.ref p7) = some true)
    (pc7 : PySem.W.recIn K p7 "property" = some (.ref f7 :: rs7))
    (l7 : K.lookup f7 = some ⟨oc7, od7, .func (PySem.W.fnOf "runs" "Store.runs" (defArgs s_Store_runs) (defBody s_Store_runs) (defScope s_Store_runs) .none kV7 dc7 pm7 an7 cd7 ct7), sl7⟩) (c7 : PySem.W.codeIn K cd7 "Store.runs" = true) (k7 : PySem.W.keepIn K (.ref f7) = true)
    (a8 : PySem.W.findIn K (.ref CStore) "total" = some (some (.ref p8)))
    (pg8 : PySem.W.specialIn K (.ref p8) "__get__" = some (some (.builtin "property.__get__")))
    (pt8 : PySem.W.takesIn K (.ref p8) = some true)
    (pc8 : PySem.W.recIn K p8 "property" = some (.ref f8 :: rs8))
    (l8 : K.lookup f8 = some ⟨oc8, od8, .func (PySem.W.fnOf "total" "Store.total" (defArgs s_Store_total) (defBody s_Store_total) (defScope s_Store_total) .none kV8 dc8 pm8 an8 cd8 ct8), sl8⟩) (c8 : PySem.W.codeIn K cd8 "Store.total" = true) (k8 : PySem.W.keepIn K (.ref f8) = true)
    (a9 : PySem.W.nsIn K mainGlobals "require_size" = some (some (.ref f9)))
    (l9 : K.lookup f9 = some ⟨oc9, od9, .func (PySem.W.fnOf "require_size" "require_size" (defArgs s_require_size) (defBody s_require_size) (defScope s_require_size) .none kV9 dc9 pm9 an9 cd9 ct9), sl9⟩) (c9 : PySem.W.codeIn K cd9 "require_size" = true) (k9 : PySem.W.keepIn K (.ref f9) = true)
    (a10 : PySem.W.nsIn K mainGlobals "space_in" = some (some (.ref f10)))
    (l10 : K.lookup f10 = some ⟨oc10, od10, .func (PySem.W.fnOf "space_in" "space_in" (defArgs s_space_in) (defBody s_space_in) (defScope s_space_in) .none kV10 dc10 pm10 an10 cd10 ct10), sl10⟩) (c10 : PySem.W.codeIn K cd10 "space_in" = true) (k10 : PySem.W.keepIn K (.ref f10) = true)
    (a11 : PySem.W.findIn K (.ref CStore) "units" = some (some (.ref f11)))
    (i11 : PySem.W.isFn K (.ref f11) = true)
    (l11 : K.lookup f11 = some ⟨oc11, od11, .func (PySem.W.fnOf "units" "Store.units" (defArgs s_Store_units) (defBody s_Store_units) (defScope s_Store_units) .none kV11 dc11 pm11 an11 cd11 ct11), sl11⟩) (c11 : PySem.W.codeIn K cd11 "Store.units" = true) (k11 : PySem.W.keepIn K (.ref f11) = true)
    (a12 : PySem.W.nsIn K mainGlobals "_law_dice" = some (some (.ref f12)))
    (l12 : K.lookup f12 = some ⟨oc12, od12, .func (PySem.W.fnOf "_law_dice" "_law_dice" (defArgs s_law_dice) (defBody s_law_dice) (defScope s_law_dice) .none kV12 dc12 pm12 an12 cd12 ct12), sl12⟩) (c12 : PySem.W.codeIn K cd12 "_law_dice" = true) (k12 : PySem.W.keepIn K (.ref f12) = true)
    (a13 : PySem.W.findIn K (.ref CStore) "__eq__" = some (some (.ref f13)))
    (i13 : PySem.W.isFn K (.ref f13) = true)
    (l13 : K.lookup f13 = some ⟨oc13, od13, .func (PySem.W.fnOf "__eq__" "Store.__eq__" (defArgs s_Store_eq) (defBody s_Store_eq) (defScope s_Store_eq) .none kV13 dc13 pm13 an13 cd13 ct13), sl13⟩) (c13 : PySem.W.codeIn K cd13 "Store.__eq__" = true) (k13 : PySem.W.keepIn K (.ref f13) = true)
    (a14 : PySem.W.findIn K (.ref CStore) "rooms" = some (some (.ref p14)))
    (pg14 : PySem.W.specialIn K (.ref p14) "__get__" = some (some (.builtin "property.__get__")))
    (pt14 : PySem.W.takesIn K (.ref p14) = some true)
    (pc14 : PySem.W.recIn K p14 "property" = some (.ref f14 :: rs14))
    (l14 : K.lookup f14 = some ⟨oc14, od14, .func (PySem.W.fnOf "rooms" "Store.rooms" (defArgs s_Store_rooms) (defBody s_Store_rooms) (defScope s_Store_rooms) .none kV14 dc14 pm14 an14 cd14 ct14), sl14⟩) (c14 : PySem.W.codeIn K cd14 "Store.rooms" = true) (k14 : PySem.W.keepIn K (.ref f14) = true)
    (a15 : PySem.W.nsIn K mainGlobals "_law_roll" = some (some (.ref f15)))
    (l15 : K.lookup f15 = some ⟨oc15, od15, .func (PySem.W.fnOf "_law_roll" "_law_roll" (defArgs s_law_roll) (defBody s_law_roll) (defScope s_law_roll) .none kV15 dc15 pm15 an15 cd15 ct15), sl15⟩) (c15 : PySem.W.codeIn K cd15 "_law_roll" = true) (k15 : PySem.W.keepIn K (.ref f15) = true)
    (a16 : PySem.W.nsIn K mainGlobals "_law_great" = some (some (.ref f16)))
    (l16 : K.lookup f16 = some ⟨oc16, od16, .func (PySem.W.fnOf "_law_great" "_law_great" (defArgs s_law_great) (defBody s_law_great) (defScope s_law_great) .none kV16 dc16 pm16 an16 cd16 ct16), sl16⟩) (c16 : PySem.W.codeIn K cd16 "_law_great" = true) (k16 : PySem.W.keepIn K (.ref f16) = true)
    (a17 : PySem.W.nsIn K mainGlobals "_law_pick" = some (some (.ref f17)))
    (l17 : K.lookup f17 = some ⟨oc17, od17, .func (PySem.W.fnOf "_law_pick" "_law_pick" (defArgs s_law_pick) (defBody s_law_pick) (defScope s_law_pick) .none kV17 dc17 pm17 an17 cd17 ct17), sl17⟩) (c17 : PySem.W.codeIn K cd17 "_law_pick" = true) (k17 : PySem.W.keepIn K (.ref f17) = true)
    (a18 : PySem.W.nsIn K mainGlobals "_law_great_store" = some (some (.ref f18)))
    (l18 : K.lookup f18 = some ⟨oc18, od18, .func (PySem.W.fnOf "_law_great_store" "_law_great_store" (defArgs s_law_great_store) (defBody s_law_great_store) (defScope s_law_great_store) .none kV18 dc18 pm18 an18 cd18 ct18), sl18⟩) (c18 : PySem.W.codeIn K cd18 "_law_great_store" = true) (k18 : PySem.W.keepIn K (.ref f18) = true)
    (a19 : PySem.W.nsIn K mainGlobals "_law_made_store" = some (some (.ref f19)))
    (l19 : K.lookup f19 = some ⟨oc19, od19, .func (PySem.W.fnOf "_law_made_store" "_law_made_store" (defArgs s_law_made_store) (defBody s_law_made_store) (defScope s_law_made_store) .none kV19 dc19 pm19 an19 cd19 ct19), sl19⟩) (c19 : PySem.W.codeIn K cd19 "_law_made_store" = true) (k19 : PySem.W.keepIn K (.ref f19) = true)
    (a20 : PySem.W.nsIn K mainGlobals "_law_merged" = some (some (.ref f20)))
    (l20 : K.lookup f20 = some ⟨oc20, od20, .func (PySem.W.fnOf "_law_merged" "_law_merged" (defArgs s_law_merged) (defBody s_law_merged) (defScope s_law_merged) .none kV20 dc20 pm20 an20 cd20 ct20), sl20⟩) (c20 : PySem.W.codeIn K cd20 "_law_merged" = true) (k20 : PySem.W.keepIn K (.ref f20) = true)
    (a21 : PySem.W.nsIn K mainGlobals "_law_small_store" = some (some (.ref f21)))
    (l21 : K.lookup f21 = some ⟨oc21, od21, .func (PySem.W.fnOf "_law_small_store" "_law_small_store" (defArgs s_law_small_store) (defBody s_law_small_store) (defScope s_law_small_store) .none kV21 dc21 pm21 an21 cd21 ct21), sl21⟩) (c21 : PySem.W.codeIn K cd21 "_law_small_store" = true) (k21 : PySem.W.keepIn K (.ref f21) = true)
    (a22 : PySem.W.findIn K (.ref CStore) "__contains__" = some (some (.ref f22)))
    (i22 : PySem.W.isFn K (.ref f22) = true)
    (l22 : K.lookup f22 = some ⟨oc22, od22, .func (PySem.W.fnOf "__contains__" "Store.__contains__" (defArgs s_Store_contains) (defBody s_Store_contains) (defScope s_Store_contains) .none kV22 dc22 pm22 an22 cd22 ct22), sl22⟩) (c22 : PySem.W.codeIn K cd22 "Store.__contains__" = true) (k22 : PySem.W.keepIn K (.ref f22) = true)
    (a23 : PySem.W.findIn K (.ref CStore) "__iter__" = some (some (.ref f23)))
    (i23 : PySem.W.isFn K (.ref f23) = true)
    (l23 : K.lookup f23 = some ⟨oc23, od23, .func (PySem.W.fnOf "__iter__" "Store.__iter__" (defArgs s_Store_iter) (defBody s_Store_iter) (defScope s_Store_iter) .none kV23 dc23 pm23 an23 cd23 ct23), sl23⟩) (c23 : PySem.W.codeIn K cd23 "Store.__iter__" = true) (k23 : PySem.W.keepIn K (.ref f23) = true)
    (a24 : PySem.W.findIn K (.ref CStore) "__len__" = some (some (.ref f24)))
    (i24 : PySem.W.isFn K (.ref f24) = true)
    (l24 : K.lookup f24 = some ⟨oc24, od24, .func (PySem.W.fnOf "__len__" "Store.__len__" (defArgs s_Store_len) (defBody s_Store_len) (defScope s_Store_len) .none kV24 dc24 pm24 an24 cd24 ct24), sl24⟩) (c24 : PySem.W.codeIn K cd24 "Store.__len__" = true) (k24 : PySem.W.keepIn K (.ref f24) = true)
    (a25 : PySem.W.findIn K (.ref CStore) "greatest" = some (some (.ref p25)))
    (pg25 : PySem.W.specialIn K (.ref p25) "__get__" = some (some (.builtin "property.__get__")))
    (pt25 : PySem.W.takesIn K (.ref p25) = some true)
    (pc25 : PySem.W.recIn K p25 "property" = some (.ref f25 :: rs25))
    (l25 : K.lookup f25 = some ⟨oc25, od25, .func (PySem.W.fnOf "greatest" "Store.greatest" (defArgs s_Store_greatest) (defBody s_Store_greatest) (defScope s_Store_greatest) .none kV25 dc25 pm25 an25 cd25 ct25), sl25⟩) (c25 : PySem.W.codeIn K cd25 "Store.greatest" = true) (k25 : PySem.W.keepIn K (.ref f25) = true)
    (a26 : PySem.W.findIn K (.ref CStore) "lines" = some (some (.ref p26)))
    (pg26 : PySem.W.specialIn K (.ref p26) "__get__" = some (some (.builtin "property.__get__")))
    (pt26 : PySem.W.takesIn K (.ref p26) = some true)
    (pc26 : PySem.W.recIn K p26 "property" = some (.ref f26 :: rs26))
    (l26 : K.lookup f26 = some ⟨oc26, od26, .func (PySem.W.fnOf "lines" "Store.lines" (defArgs s_Store_lines) (defBody s_Store_lines) (defScope s_Store_lines) .none kV26 dc26 pm26 an26 cd26 ct26), sl26⟩) (c26 : PySem.W.codeIn K cd26 "Store.lines" = true) (k26 : PySem.W.keepIn K (.ref f26) = true)
    (a27 : PySem.W.nsIn K mainGlobals "_law_space" = some (some (.ref f27)))
    (l27 : K.lookup f27 = some ⟨oc27, od27, .func (PySem.W.fnOf "_law_space" "_law_space" (defArgs s_law_space) (defBody s_law_space) (defScope s_law_space) .none kV27 dc27 pm27 an27 cd27 ct27), sl27⟩) (c27 : PySem.W.codeIn K cd27 "_law_space" = true) (k27 : PySem.W.keepIn K (.ref f27) = true)
    (a28 : PySem.W.nsIn K mainGlobals "_law_told_right" = some (some (.ref f28)))
    (l28 : K.lookup f28 = some ⟨oc28, od28, .func (PySem.W.fnOf "_law_told_right" "_law_told_right" (defArgs s_law_told_right) (defBody s_law_told_right) (defScope s_law_told_right) .none kV28 dc28 pm28 an28 cd28 ct28), sl28⟩) (c28 : PySem.W.codeIn K cd28 "_law_told_right" = true) (k28 : PySem.W.keepIn K (.ref f28) = true)
    (a29 : PySem.W.nsIn K mainGlobals "_law_long_chain" = some (some (.ref f29)))
    (l29 : K.lookup f29 = some ⟨oc29, od29, .func (PySem.W.fnOf "_law_long_chain" "_law_long_chain" (defArgs s_law_long_chain) (defBody s_law_long_chain) (defScope s_law_long_chain) .none kV29 dc29 pm29 an29 cd29 ct29), sl29⟩) (c29 : PySem.W.codeIn K cd29 "_law_long_chain" = true) (k29 : PySem.W.keepIn K (.ref f29) = true)
    (a30 : PySem.W.nsIn K mainGlobals "_law_wild_sizes" = some (some (.ref f30)))
    (l30 : K.lookup f30 = some ⟨oc30, od30, .func (PySem.W.fnOf "_law_wild_sizes" "_law_wild_sizes" (defArgs s_law_wild_sizes) (defBody s_law_wild_sizes) (defScope s_law_wild_sizes) .none kV30 dc30 pm30 an30 cd30 ct30), sl30⟩) (c30 : PySem.W.codeIn K cd30 "_law_wild_sizes" = true) (k30 : PySem.W.keepIn K (.ref f30) = true)
    (a31 : PySem.W.nsIn K mainGlobals "_law_right" = some (some (.ref f31)))
    (l31 : K.lookup f31 = some ⟨oc31, od31, .func (PySem.W.fnOf "_law_right" "_law_right" (defArgs s_law_right) (defBody s_law_right) (defScope s_law_right) .none kV31 dc31 pm31 an31 cd31 ct31), sl31⟩) (c31 : PySem.W.codeIn K cd31 "_law_right" = true) (k31 : PySem.W.keepIn K (.ref f31) = true)
    (a32 : PySem.W.nsIn K mainGlobals "law" = some (some (.ref f32)))
    (l32 : K.lookup f32 = some ⟨oc32, od32, .func (PySem.W.fnOf "law" "law" (defArgs s_law) (defBody s_law) (defScope s_law) .none kV32 dc32 pm32 an32 cd32 ct32), sl32⟩) (c32 : PySem.W.codeIn K cd32 "law" = true) (k32 : PySem.W.keepIn K (.ref f32) = true)
    (z_abs : PySem.W.nsIn K mainGlobals "abs" = some none)
    (z_all : PySem.W.nsIn K mainGlobals "all" = some none)
    (z_any : PySem.W.nsIn K mainGlobals "any" = some none)
    (z_bool : PySem.W.nsIn K mainGlobals "bool" = some none)
    (z_int : PySem.W.nsIn K mainGlobals "int" = some none)
    (z_isinstance : PySem.W.nsIn K mainGlobals "isinstance" = some none)
    (z_iter : PySem.W.nsIn K mainGlobals "iter" = some none)
    (z_len : PySem.W.nsIn K mainGlobals "len" = some none)
    (z_list : PySem.W.nsIn K mainGlobals "list" = some none)
    (z_max : PySem.W.nsIn K mainGlobals "max" = some none)
    (z_min : PySem.W.nsIn K mainGlobals "min" = some none)
    (z_range : PySem.W.nsIn K mainGlobals "range" = some none)
    (z_repr : PySem.W.nsIn K mainGlobals "repr" = some none)
    (z_set : PySem.W.nsIn K mainGlobals "set" = some none)
    (z_sorted : PySem.W.nsIn K mainGlobals "sorted" = some none)
    (z_str : PySem.W.nsIn K mainGlobals "str" = some none)
    (z_sum : PySem.W.nsIn K mainGlobals "sum" = some none)
    (z_tuple : PySem.W.nsIn K mainGlobals "tuple" = some none)
    (g_LIMIT : PySem.W.nsIn K mainGlobals "LIMIT" = some (some (.int 100000000000000000000000000000000000000000000000000000000000000000000000000000000000000000000000000000000000000000000000000000000000000000000000000000000000000000000000000000000000000000000000000000000 t_LIMIT)))
    (g_MAX_RUNS : PySem.W.nsIn K mainGlobals "MAX_RUNS" = some (some (.int 40 t_MAX_RUNS))) :
    ∀ base : Heap, K.In base → base.Ns mainGlobals mg → FnD l.prog w K mg base 8 fa m_law := by
  have e := hfa.symm.trans (PySem.W.mg_of X G a32)
  cases e
  let T : Txt K mg := {
    C_Row := CRow,
    n_Row := n_Row,
    g_Row := PySem.W.mg_of X G n_Row,
    cl_Row := (insTy_of ct_Row).cl,
    ki_Row := ki_Row,
    C_Store := CStore,
    n_Store := n_Store,
    g_Store := PySem.W.mg_of X G n_Store,
    cl_Store := (insTy_of ct_Store).cl,
    ki_Store := ki_Store,
    kits := KitOwn.of [("Row", CRow), ("Store", CStore)] rfl (by decide) (by intro p hp; simp only [List.mem_cons, List.not_mem_nil, or_false] at hp; rcases hp with rfl | rfl <;> assumption) kk2 kk3,
    kback := BackOwn.of [("Row", CRow), ("Store", CStore)] rfl (by intro p hp; simp only [List.mem_cons, List.not_mem_nil, or_false] at hp; rcases hp with rfl | rfl <;> assumption) kk4,
    no_Row_own_runs := no_Row_own_runs,
    no_Store_own_runs := no_Store_own_runs,
    fo := FirstOwn.of [("Row", CRow), ("Store", CStore)] rfl (by intro p hp; simp only [List.mem_cons, List.not_mem_nil, or_false] at hp; rcases hp with rfl | rfl <;> assumption) fo,
    C_InvalidNumber := CInvalidNumber,
    n_InvalidNumber := n_InvalidNumber,
    g_InvalidNumber := PySem.W.mg_of X G n_InvalidNumber,
    fi_InvalidNumber := fiInvalidNumber,
    x_InvalidNumber := ⟨⟨_, _, _, _, _, _, _, _, _, _, _, _, _, _, _, xc_InvalidNumber, xb_InvalidNumber⟩, xsa_InvalidNumber, xga_InvalidNumber, xgg_InvalidNumber, xno_InvalidNumber, xi_InvalidNumber, xt_InvalidNumber, xk_InvalidNumber, xe_InvalidNumber, xy_InvalidNumber, xh_InvalidNumber, ⟨_, _, _, _, _, _, _, _, _, _, _, _, _, _, xl_InvalidNumber, xcd_InvalidNumber⟩⟩,
    xf_InvalidNumber := ⟨xga_InvalidNumber, xgg_InvalidNumber, xe_InvalidNumber, xh_InvalidNumber⟩,
    C_InvalidStore := CInvalidStore,
    n_InvalidStore := n_InvalidStore,
    g_InvalidStore := PySem.W.mg_of X G n_InvalidStore,
    xi_InvalidStore := xi_InvalidStore,
    kp_InvalidStore := kp_InvalidStore,
    sb_InvalidStore := sb_InvalidStore,
    ty_InvalidStore := ty_InvalidStore,
    f_is_integer := f0,
    d_is_integer := _,
    F_is_integer := fun_mk (st := s_is_integer) l0 c0 k0,
    m_is_integer := PySem.W.mg_of X G a0,
    k_is_integer := k0,
    b_is_integer := (fun_mk (st := s_is_integer) l0 c0 k0).binds fun _ _ _ _ _ _ us hl => match us, hl with | [_], _ => rfl,
    f_is_size := f1,
    d_is_size := _,
    F_is_size := fun_mk (st := s_is_size) l1 c1 k1,
    m_is_size := PySem.W.mg_of X G a1,
    k_is_size := k1,
    b_is_size := (fun_mk (st := s_is_size) l1 c1 k1).binds fun _ _ _ _ _ _ us hl => match us, hl with | [_], _ => rfl,
    f_is_run := f2,
    d_is_run := _,
    F_is_run := fun_mk (st := s_is_run) l2 c2 k2,
    m_is_run := PySem.W.mg_of X G a2,
    k_is_run := k2,
    b_is_run := (fun_mk (st := s_is_run) l2 c2 k2).binds fun _ _ _ _ _ _ us hl => match us, hl with | [_], _ => rfl,
    f_merged := f3,
    d_merged := _,
    F_merged := fun_mk (st := s_merged) l3 c3 k3,
    m_merged := PySem.W.mg_of X G a3,
    k_merged := k3,
    b_merged := (fun_mk (st := s_merged) l3 c3 k3).binds fun _ _ _ _ _ _ us hl => match us, hl with | [_], _ => rfl,
    mk_Store := ⟨mi_Store, a4, i4, mk_Store⟩,
    f_Store_init := f4,
    d_Store_init := _,
    F_Store_init := fun_mk (st := s_Store_init) l4 c4 k4,
    b_Store_init := StX.bind_star1 (B := fun xs => bindArgs _ ⟨xs, []⟩) (fun a => rfl) (fun a r rs => rfl),
    p_Store_number := p5,
    pr_Store_number := ⟨a5, pg5, pt5, _, pc5⟩,
    f_Store_number := f5,
    d_Store_number := _,
    F_Store_number := fun_mk (st := s_Store_number) l5 c5 k5,
    b_Store_number := (fun_mk (st := s_Store_number) l5 c5 k5).binds fun _ _ _ _ _ _ us hl => match us, hl with | [_], _ => rfl,
    f_Store_str := f6,
    d_Store_str := _,
    F_Store_str := fun_mk (st := s_Store_str) l6 c6 k6,
    me_Store_str := ⟨a6, i6, k6⟩,
    b_Store_str := (fun_mk (st := s_Store_str) l6 c6 k6).binds fun _ _ _ _ _ _ us hl => match us, hl with | [_], _ => rfl,
    p_Store_runs := p7,
    pr_Store_runs := ⟨a7, pg7, pt7, _, pc7⟩,
    f_Store_runs := f7,
    d_Store_runs := _,
    F_Store_runs := fun_mk (st := s_Store_runs) l7 c7 k7,
    b_Store_runs := (fun_mk (st := s_Store_runs) l7 c7 k7).binds fun _ _ _ _ _ _ us hl => match us, hl with | [_], _ => rfl,
    p_Store_total := p8,
    pr_Store_total := ⟨a8, pg8, pt8, _, pc8⟩,
    f_Store_total := f8,
    d_Store_total := _,
    F_Store_total := fun_mk (st := s_Store_total) l8 c8 k8,
    b_Store_total := (fun_mk (st := s_Store_total) l8 c8 k8).binds fun _ _ _ _ _ _ us hl => match us, hl with | [_], _ => rfl,
    f_require_size := f9,
    d_require_size := _,
    F_require_size := fun_mk (st := s_require_size) l9 c9 k9,
    m_require_size := PySem.W.mg_of X G a9,
    k_require_size := k9,
    b_require_size := (fun_mk (st := s_require_size) l9 c9 k9).binds fun _ _ _ _ _ _ us hl => match us, hl with | [_], _ => rfl,
    f_space_in := f10,
    d_space_in := _,
    F_space_in := fun_mk (st := s_space_in) l10 c10 k10,
    m_space_in := PySem.W.mg_of X G a10,
    k_space_in := k10,
    b_space_in := (fun_mk (st := s_space_in) l10 c10 k10).binds fun _ _ _ _ _ _ us hl => match us, hl with | [_, _], _ => rfl,
    f_Store_units := f11,
    d_Store_units := _,
    F_Store_units := fun_mk (st := s_Store_units) l11 c11 k11,
    me_Store_units := ⟨a11, i11, k11⟩,
    b_Store_units := (fun_mk (st := s_Store_units) l11 c11 k11).binds fun _ _ _ _ _ _ us hl => match us, hl with | [_, _], _ => rfl,
    f_law_dice := f12,
    d_law_dice := _,
    F_law_dice := fun_mk (st := s_law_dice) l12 c12 k12,
    m_law_dice := PySem.W.mg_of X G a12,
    k_law_dice := k12,
    b_law_dice := (fun_mk (st := s_law_dice) l12 c12 k12).binds fun _ _ _ _ _ _ us hl => match us, hl with | [_, _], _ => rfl,
    f_Store_eq := f13,
    d_Store_eq := _,
    F_Store_eq := fun_mk (st := s_Store_eq) l13 c13 k13,
    me_Store_eq := ⟨a13, i13, k13⟩,
    b_Store_eq := (fun_mk (st := s_Store_eq) l13 c13 k13).binds fun _ _ _ _ _ _ us hl => match us, hl with | [_, _], _ => rfl,
    p_Store_rooms := p14,
    pr_Store_rooms := ⟨a14, pg14, pt14, _, pc14⟩,
    f_Store_rooms := f14,
    d_Store_rooms := _,
    F_Store_rooms := fun_mk (st := s_Store_rooms) l14 c14 k14,
    b_Store_rooms := (fun_mk (st := s_Store_rooms) l14 c14 k14).binds fun _ _ _ _ _ _ us hl => match us, hl with | [_], _ => rfl,
    f_law_roll := f15,
    d_law_roll := _,
    F_law_roll := fun_mk (st := s_law_roll) l15 c15 k15,
    m_law_roll := PySem.W.mg_of X G a15,
    k_law_roll := k15,
    b_law_roll := (fun_mk (st := s_law_roll) l15 c15 k15).binds fun _ _ _ _ _ _ us hl => match us, hl with | [_, _], _ => rfl,
    f_law_great := f16,
    d_law_great := _,
    F_law_great := fun_mk (st := s_law_great) l16 c16 k16,
    m_law_great := PySem.W.mg_of X G a16,
    k_law_great := k16,
    b_law_great := (fun_mk (st := s_law_great) l16 c16 k16).binds fun _ _ _ _ _ _ us hl => match us, hl with | [_, _], _ => rfl,
    f_law_pick := f17,
    d_law_pick := _,
    F_law_pick := fun_mk (st := s_law_pick) l17 c17 k17,
    m_law_pick := PySem.W.mg_of X G a17,
    k_law_pick := k17,
    b_law_pick := (fun_mk (st := s_law_pick) l17 c17 k17).binds fun _ _ _ _ _ _ us hl => match us, hl with | [_, _], _ => rfl,
    f_law_great_store := f18,
    d_law_great_store := _,
    F_law_great_store := fun_mk (st := s_law_great_store) l18 c18 k18,
    m_law_great_store := PySem.W.mg_of X G a18,
    k_law_great_store := k18,
    b_law_great_store := (fun_mk (st := s_law_great_store) l18 c18 k18).binds fun _ _ _ _ _ _ us hl => match us, hl with | [_, _], _ => rfl,
    f_law_made_store := f19,
    d_law_made_store := _,
    F_law_made_store := fun_mk (st := s_law_made_store) l19 c19 k19,
    m_law_made_store := PySem.W.mg_of X G a19,
    k_law_made_store := k19,
    b_law_made_store := (fun_mk (st := s_law_made_store) l19 c19 k19).binds fun _ _ _ _ _ _ us hl => match us, hl with | [_], _ => rfl,
    f_law_merged := f20,
    d_law_merged := _,
    F_law_merged := fun_mk (st := s_law_merged) l20 c20 k20,
    m_law_merged := PySem.W.mg_of X G a20,
    k_law_merged := k20,
    b_law_merged := (fun_mk (st := s_law_merged) l20 c20 k20).binds fun _ _ _ _ _ _ us hl => match us, hl with | [_], _ => rfl,
    f_law_small_store := f21,
    d_law_small_store := _,
    F_law_small_store := fun_mk (st := s_law_small_store) l21 c21 k21,
    m_law_small_store := PySem.W.mg_of X G a21,
    k_law_small_store := k21,
    b_law_small_store := (fun_mk (st := s_law_small_store) l21 c21 k21).binds fun _ _ _ _ _ _ us hl => match us, hl with | [_, _, _], _ => rfl,
    f_Store_contains := f22,
    d_Store_contains := _,
    F_Store_contains := fun_mk (st := s_Store_contains) l22 c22 k22,
    me_Store_contains := ⟨a22, i22, k22⟩,
    b_Store_contains := (fun_mk (st := s_Store_contains) l22 c22 k22).binds fun _ _ _ _ _ _ us hl => match us, hl with | [_, _], _ => rfl,
    f_Store_iter := f23,
    d_Store_iter := _,
    F_Store_iter := fun_mk (st := s_Store_iter) l23 c23 k23,
    me_Store_iter := ⟨a23, i23, k23⟩,
    b_Store_iter := (fun_mk (st := s_Store_iter) l23 c23 k23).binds fun _ _ _ _ _ _ us hl => match us, hl with | [_], _ => rfl,
    f_Store_len := f24,
    d_Store_len := _,
    F_Store_len := fun_mk (st := s_Store_len) l24 c24 k24,
    me_Store_len := ⟨a24, i24, k24⟩,
    b_Store_len := (fun_mk (st := s_Store_len) l24 c24 k24).binds fun _ _ _ _ _ _ us hl => match us, hl with | [_], _ => rfl,
    p_Store_greatest := p25,
    pr_Store_greatest := ⟨a25, pg25, pt25, _, pc25⟩,
    f_Store_greatest := f25,
    d_Store_greatest := _,
    F_Store_greatest := fun_mk (st := s_Store_greatest) l25 c25 k25,
    b_Store_greatest := (fun_mk (st := s_Store_greatest) l25 c25 k25).binds fun _ _ _ _ _ _ us hl => match us, hl with | [_], _ => rfl,
    p_Store_lines := p26,
    pr_Store_lines := ⟨a26, pg26, pt26, _, pc26⟩,
    f_Store_lines := f26,
    d_Store_lines := _,
    F_Store_lines := fun_mk (st := s_Store_lines) l26 c26 k26,
    b_Store_lines := (fun_mk (st := s_Store_lines) l26 c26 k26).binds fun _ _ _ _ _ _ us hl => match us, hl with | [_], _ => rfl,
    f_law_space := f27,
    d_law_space := _,
    F_law_space := fun_mk (st := s_law_space) l27 c27 k27,
    m_law_space := PySem.W.mg_of X G a27,
    k_law_space := k27,
    b_law_space := (fun_mk (st := s_law_space) l27 c27 k27).binds fun _ _ _ _ _ _ us hl => match us, hl with | [_, _], _ => rfl,
    f_law_told_right := f28,
    d_law_told_right := _,
    F_law_told_right := fun_mk (st := s_law_told_right) l28 c28 k28,
    m_law_told_right := PySem.W.mg_of X G a28,
    k_law_told_right := k28,
    b_law_told_right := (fun_mk (st := s_law_told_right) l28 c28 k28).binds fun _ _ _ _ _ _ us hl => match us, hl with | [_, _], _ => rfl,
    f_law_long_chain := f29,
    d_law_long_chain := _,
    F_law_long_chain := fun_mk (st := s_law_long_chain) l29 c29 k29,
    m_law_long_chain := PySem.W.mg_of X G a29,
    k_law_long_chain := k29,
    b_law_long_chain := (fun_mk (st := s_law_long_chain) l29 c29 k29).binds fun _ _ _ _ _ _ us hl => match us, hl with | [_], _ => rfl,
    f_law_wild_sizes := f30,
    d_law_wild_sizes := _,
    F_law_wild_sizes := fun_mk (st := s_law_wild_sizes) l30 c30 k30,
    m_law_wild_sizes := PySem.W.mg_of X G a30,
    k_law_wild_sizes := k30,
    b_law_wild_sizes := (fun_mk (st := s_law_wild_sizes) l30 c30 k30).binds fun _ _ _ _ _ _ us hl => match us, hl with | [_], _ => rfl,
    f_law_right := f31,
    d_law_right := _,
    F_law_right := fun_mk (st := s_law_right) l31 c31 k31,
    m_law_right := PySem.W.mg_of X G a31,
    k_law_right := k31,
    b_law_right := (fun_mk (st := s_law_right) l31 c31 k31).binds fun _ _ _ _ _ _ us hl => match us, hl with | [_], _ => rfl,
    f_law := fa,
    d_law := _,
    F_law := fun_mk (st := s_law) l32 c32 k32,
    m_law := PySem.W.mg_of X G a32,
    k_law := k32,
    b_law := (fun_mk (st := s_law) l32 c32 k32).binds fun _ _ _ _ _ _ us hl => match us, hl with | [_], _ => rfl,
    in_Store := ⟨i22, a22⟩,
    eq_Store := ⟨i13, a13, en_Store, eo_Store⟩,
    ff_Store := ff_Store,
    it_Store := ⟨i23, a23⟩,
    len_Store := ⟨i24, a24⟩,
    str_Store := ⟨i6, a6⟩,
    z_abs := PySem.W.mg_none_of X G z_abs,
    z_all := PySem.W.mg_none_of X G z_all,
    z_any := PySem.W.mg_none_of X G z_any,
    z_bool := PySem.W.mg_none_of X G z_bool,
    z_int := PySem.W.mg_none_of X G z_int,
    z_isinstance := PySem.W.mg_none_of X G z_isinstance,
    z_iter := PySem.W.mg_none_of X G z_iter,
    z_len := PySem.W.mg_none_of X G z_len,
    z_list := PySem.W.mg_none_of X G z_list,
    z_max := PySem.W.mg_none_of X G z_max,
    z_min := PySem.W.mg_none_of X G z_min,
    z_range := PySem.W.mg_none_of X G z_range,
    z_repr := PySem.W.mg_none_of X G z_repr,
    z_set := PySem.W.mg_none_of X G z_set,
    z_sorted := PySem.W.mg_none_of X G z_sorted,
    z_str := PySem.W.mg_none_of X G z_str,
    z_sum := PySem.W.mg_none_of X G z_sum,
    z_tuple := PySem.W.mg_none_of X G z_tuple,
    t_LIMIT := t_LIMIT,
    g_LIMIT := PySem.W.mg_of X G g_LIMIT,
    t_MAX_RUNS := t_MAX_RUNS,
    g_MAX_RUNS := PySem.W.mg_of X G g_MAX_RUNS }
  exact fun base _ _ => ok_law T
end DL.Law
namespace DL.Law
open DL
open PySem PySem.Spec PyProof.Rows L2
theorem head_mk [TabsC] {l : PySem.W.OpenLaw} {w : World} {K : PySem.W.Frag} {h : Heap} {mg : Str → Option Value} {fa : Addr} (X : K.In h) (G : h.Ns mainGlobals mg) (hfa : mg "law" = some (.ref fa)) (c : DL.SaysM FNS EX K) :
    ∀ base : Heap, K.In base → base.Ns mainGlobals mg → FnD l.prog w K mg base 8 fa m_law := by
  have n_Row : PySem.W.nsIn K mainGlobals "Row" = some (some (.ref (He.ga K "Row"))) := of_decide_eq_true (c.b 0)
  have ct_Row : insTyB K (He.ga K "Row") = true := (c.b 1)
  have ki_Row : kitAll K (He.ga K "Row") = true := (c.b 2)
  have n_Store : PySem.W.nsIn K mainGlobals "Store" = some (some (.ref (He.ga K "Store"))) := of_decide_eq_true (c.b 3)
  have ct_Store : insTyB K (He.ga K "Store") = true := (c.b 4)
  have ki_Store : kitAll K (He.ga K "Store") = true := (c.b 5)
  have kk2 : (([("Row", (He.ga K "Row")), ("Store", (He.ga K "Store"))] : List (Str × Addr)).all fun p => ([("Row", (He.ga K "Row")), ("Store", (He.ga K "Store"))] : List (Str × Addr)).all fun q => decide (PySem.W.kitOne K (.ref p.2) (.ref q.2) = some (decide (p.1 = q.1)))) = true := (c.b 6)
  have kk3 : (([("Row", (He.ga K "Row")), ("Store", (He.ga K "Store"))] : List (Str × Addr)).all fun p => insTyB K p.2) = true := (c.b 7)
  have kk4 : (([("Row", (He.ga K "Row")), ("Store", (He.ga K "Store"))] : List (Str × Addr)).all fun p => kitBack K p.2) = true := (c.b 8)
  have no_Row_own_runs : PySem.W.findIn K (.ref (He.ga K "Row")) "own_runs" = some none := of_decide_eq_true (c.b 9)
  have no_Store_own_runs : PySem.W.findIn K (.ref (He.ga K "Store")) "own_runs" = some none := of_decide_eq_true (c.b 10)
  have en_Store : PySem.W.findIn K (.ref (He.ga K "Store")) "__ne__" = some (some (.builtin "object.__ne__")) := of_decide_eq_true (c.b 11)
  have eo_Store : PySem.W.mroIn K (He.ga K "Store") (.type "object") = some true := of_decide_eq_true (c.b 12)
  have ff_Store : firstAll K (He.ga K "Store") = true := (c.b 13)
  have fo : (([("Row", (He.ga K "Row")), ("Store", (He.ga K "Store"))] : List (Str × Addr)).all fun p => ([("Row", (He.ga K "Row")), ("Store", (He.ga K "Store"))] : List (Str × Addr)).all fun q => PySem.W.notFirst K q.2 (.ref p.2)) = true := (c.b 14)
  have n_InvalidNumber : PySem.W.nsIn K mainGlobals "InvalidNumber" = some (some (.ref (He.ga K "InvalidNumber"))) := of_decide_eq_true (c.b 15)
  obtain ⟨nmInvalidNumber, qqInvalidNumber, NInvalidNumber, bsInvalidNumber, bmInvalidNumber, snInvalidNumber, sbInvalidNumber, abInvalidNumber, coInvalidNumber, ddInvalidNumber, e0InvalidNumber, e1InvalidNumber, e2InvalidNumber, e3InvalidNumber, e5InvalidNumber, xc_InvalidNumber, xb_InvalidNumber⟩ := DL.xc_ok (c.b 16)
  have xsa_InvalidNumber : PySem.W.findIn K (.ref (He.ga K "InvalidNumber")) "__setattr__" = some (some (.builtin "object.__setattr__")) := of_decide_eq_true (c.b 17)
  have xga_InvalidNumber : PySem.W.findIn K (.ref (He.ga K "InvalidNumber")) "__getattribute__" = some (some (.builtin "BaseException.__getattribute__")) := of_decide_eq_true (c.b 18)
  have xgg_InvalidNumber : PySem.W.findIn K (.ref (He.ga K "InvalidNumber")) "__getattr__" = some none := of_decide_eq_true (c.b 19)
  have xno_InvalidNumber : PySem.W.findIn K (.ref (He.ga K "InvalidNumber")) "value" = some none := of_decide_eq_true (c.b 20)
  have xi_InvalidNumber : PySem.W.findIn K (.ref (He.ga K "InvalidNumber")) "__init__" = some (some (.ref (He.ma K (He.ga K "InvalidNumber") "__init__"))) := of_decide_eq_true (c.b 21)
  have xt_InvalidNumber : PySem.W.typeIn K (.ref (He.ma K (He.ga K "InvalidNumber") "__init__")) = some (.type "function") := of_decide_eq_true (c.b 22)
  have xk_InvalidNumber : PySem.W.keepIn K (.ref (He.ga K "InvalidNumber")) = true := (c.b 23)
  have xe_InvalidNumber : PySem.W.subIn K (.ref (He.ga K "InvalidNumber")) (.type "BaseException") = some true := of_decide_eq_true (c.b 24)
  have xy_InvalidNumber : PySem.W.typeIn K (.ref (He.ga K "InvalidNumber")) = some (.type "type") := of_decide_eq_true (c.b 25)
  have xh_InvalidNumber : PySem.W.hasDictIn K (He.ga K "InvalidNumber") = true := (c.b 26)
  have v0 : DL.fnV K (He.ma K (He.ga K "InvalidNumber") "__init__") = (some ("__init__", "InvalidNumber.__init__", (xA "value" ⟨19, 17, 19, 21⟩ ⟨19, 23, 19, 28⟩), .stmts (xB "value" ⟨20, 8, 20, 12⟩ ⟨20, 8, 20, 18⟩ ⟨20, 21, 20, 26⟩ ⟨20, 8, 20, 26⟩), (xS "value"), mainGlobals, [], builtinsNs) : He.FnW) := c.f 0 (d := fd0)
  obtain ⟨ocInvalidNumber, odInvalidNumber, dcInvalidNumber, pmInvalidNumber, anInvalidNumber, cdInvalidNumber, ctInvalidNumber, slInvalidNumber, xl_InvalidNumber, xcd_InvalidNumber⟩ := DL.fn_okx v0 (c.b 27)
  have n_InvalidStore : PySem.W.nsIn K mainGlobals "InvalidStore" = some (some (.ref (He.ga K "InvalidStore"))) := of_decide_eq_true (c.b 28)
  have xi_InvalidStore : PySem.W.excIn K (He.ga K "InvalidStore") [.type "ValueError", .type "Exception", .type "BaseException", .type "object"] "ValueError.__new__" = true := (c.b 29)
  have kp_InvalidStore : PySem.W.keepIn K (.ref (He.ga K "InvalidStore")) = true := (c.b 30)
  have sb_InvalidStore : PySem.W.subIn K (.ref (He.ga K "InvalidStore")) (.type "BaseException") = some true := of_decide_eq_true (c.b 31)
  have ty_InvalidStore : PySem.W.typeIn K (.ref (He.ga K "InvalidStore")) = some (.type "type") := of_decide_eq_true (c.b 32)
  have a0 : PySem.W.nsIn K mainGlobals "is_integer" = some (some (.ref (He.ga K "is_integer"))) := of_decide_eq_true (c.b 33)
  have v1 : DL.fnV K (He.ga K "is_integer") = (some ("is_integer", "is_integer", (defArgs s_is_integer), .stmts (defBody s_is_integer), (defScope s_is_integer), mainGlobals, [], builtinsNs) : He.FnW) := c.f 1 (d := fd1)
  obtain ⟨oc0, od0, kV0, dc0, pm0, an0, cd0, ct0, sl0, l0, c0⟩ := DL.fn_ok0 v1 (c.b 34)
  have k0 : PySem.W.keepIn K (.ref (He.ga K "is_integer")) = true := (c.b 35)
  have a1 : PySem.W.nsIn K mainGlobals "is_size" = some (some (.ref (He.ga K "is_size"))) := of_decide_eq_true (c.b 36)
  have v2 : DL.fnV K (He.ga K "is_size") = (some ("is_size", "is_size", (defArgs s_is_size), .stmts (defBody s_is_size), (defScope s_is_size), mainGlobals, [], builtinsNs) : He.FnW) := c.f 2 (d := fd2)
  obtain ⟨oc1, od1, kV1, dc1, pm1, an1, cd1, ct1, sl1, l1, c1⟩ := DL.fn_ok0 v2 (c.b 37)
  have k1 : PySem.W.keepIn K (.ref (He.ga K "is_size")) = true := (c.b 38)
  have a2 : PySem.W.nsIn K mainGlobals "is_run" = some (some (.ref (He.ga K "is_run"))) := of_decide_eq_true (c.b 39)
  have v3 : DL.fnV K (He.ga K "is_run") = (some ("is_run", "is_run", (defArgs s_is_run), .stmts (defBody s_is_run), (defScope s_is_run), mainGlobals, [], builtinsNs) : He.FnW) := c.f 3 (d := fd3)
  obtain ⟨oc2, od2, kV2, dc2, pm2, an2, cd2, ct2, sl2, l2, c2⟩ := DL.fn_ok0 v3 (c.b 40)
  have k2 : PySem.W.keepIn K (.ref (He.ga K "is_run")) = true := (c.b 41)
  have a3 : PySem.W.nsIn K mainGlobals "merged" = some (some (.ref (He.ga K "merged"))) := of_decide_eq_true (c.b 42)
  have v4 : DL.fnV K (He.ga K "merged") = (some ("merged", "merged", (defArgs s_merged), .stmts (defBody s_merged), (defScope s_merged), mainGlobals, [], builtinsNs) : He.FnW) := c.f 4 (d := fd4)
  obtain ⟨oc3, od3, kV3, dc3, pm3, an3, cd3, ct3, sl3, l3, c3⟩ := DL.fn_ok0 v4 (c.b 43)
  have k3 : PySem.W.keepIn K (.ref (He.ga K "merged")) = true := (c.b 44)
  have a4 : PySem.W.findIn K (.ref (He.ga K "Store")) "__init__" = some (some (.ref (He.ma K (He.ga K "Store") "__init__"))) := of_decide_eq_true (c.b 45)
  have i4 : PySem.W.isFn K (.ref (He.ma K (He.ga K "Store") "__init__")) = true := (c.b 46)
  have mi_Store : PySem.W.makesIn K (He.ga K "Store") = true := (c.b 47)
  have mk_Store : PySem.W.keepIn K (.ref (He.ga K "Store")) = true := (c.b 48)
  have v5 : DL.fnV K (He.ma K (He.ga K "Store") "__init__") = (some ("__init__", "Store.__init__", (defArgs s_Store_init), .stmts (defBody s_Store_init), (defScope s_Store_init), mainGlobals, [], builtinsNs) : He.FnW) := c.f 5 (d := fd5)
  obtain ⟨oc4, od4, kV4, dc4, pm4, an4, cd4, ct4, sl4, l4, c4⟩ := DL.fn_ok0 v5 (c.b 49)
  have k4 : PySem.W.keepIn K (.ref (He.ma K (He.ga K "Store") "__init__")) = true := (c.b 50)
  have a5 : PySem.W.findIn K (.ref (He.ga K "Store")) "number" = some (some (.ref (He.ma K (He.ga K "Store") "number"))) := of_decide_eq_true (c.b 51)
  have pg5 : PySem.W.specialIn K (.ref (He.ma K (He.ga K "Store") "number")) "__get__" = some (some (.builtin "property.__get__")) := of_decide_eq_true (c.b 52)
  have pt5 : PySem.W.takesIn K (.ref (He.ma K (He.ga K "Store") "number")) = some true := of_decide_eq_true (c.b 53)
  obtain ⟨rs5, pc5⟩ := DL.pf_ok (c.b 54)
  have v6 : DL.fnV K (DL.pfOf K (He.ma K (He.ga K "Store") "number")) = (some ("number", "Store.number", (defArgs s_Store_number), .stmts (defBody s_Store_number), (defScope s_Store_number), mainGlobals, [], builtinsNs) : He.FnW) := c.f 6 (d := fd6)
  obtain ⟨oc5, od5, kV5, dc5, pm5, an5, cd5, ct5, sl5, l5, c5⟩ := DL.fn_ok0 v6 (c.b 55)
  have k5 : PySem.W.keepIn K (.ref (DL.pfOf K (He.ma K (He.ga K "Store") "number"))) = true := (c.b 56)
  have a6 : PySem.W.findIn K (.ref (He.ga K "Store")) "__str__" = some (some (.ref (He.ma K (He.ga K "Store") "__str__"))) := of_decide_eq_true (c.b 57)
  have i6 : PySem.W.isFn K (.ref (He.ma K (He.ga K "Store") "__str__")) = true := (c.b 58)
  have v7 : DL.fnV K (He.ma K (He.ga K "Store") "__str__") = (some ("__str__", "Store.__str__", (defArgs s_Store_str), .stmts (defBody s_Store_str), (defScope s_Store_str), mainGlobals, [], builtinsNs) : He.FnW) := c.f 7 (d := fd7)
  obtain ⟨oc6, od6, kV6, dc6, pm6, an6, cd6, ct6, sl6, l6, c6⟩ := DL.fn_ok0 v7 (c.b 59)
  have k6 : PySem.W.keepIn K (.ref (He.ma K (He.ga K "Store") "__str__")) = true := (c.b 60)
  have a7 : PySem.W.findIn K (.ref (He.ga K "Store")) "runs" = some (some (.ref (He.ma K (He.ga K "Store") "runs"))) := of_decide_eq_true (c.b 61)
  have pg7 : PySem.W.specialIn K (.ref (He.ma K (He.ga K "Store") "runs")) "__get__" = some (some (.builtin "property.__get__")) := of_decide_eq_true (c.b 62)
  have pt7 : PySem.W.takesIn K (.ref (He.ma K (He.ga K "Store") "runs")) = some true := of_decide_eq_true (c.b 63)
  obtain ⟨rs7, pc7⟩ := DL.pf_ok (c.b 64)
  have v8 : DL.fnV K (DL.pfOf K (He.ma K (He.ga K "Store") "runs")) = (some ("runs", "Store.runs", (defArgs s_Store_runs), .stmts (defBody s_Store_runs), (defScope s_Store_runs), mainGlobals, [], builtinsNs) : He.FnW) := c.f 8 (d := fd8)
  obtain ⟨oc7, od7, kV7, dc7, pm7, an7, cd7, ct7, sl7, l7, c7⟩ := DL.fn_ok0 v8 (c.b 65)
  have k7 : PySem.W.keepIn K (.ref (DL.pfOf K (He.ma K (He.ga K "Store") "runs"))) = true := (c.b 66)
  have a8 : PySem.W.findIn K (.ref (He.ga K "Store")) "total" = some (some (.ref (He.ma K (He.ga K "Store") "total"))) := of_decide_eq_true (c.b 67)
  have pg8 : PySem.W.specialIn K (.ref (He.ma K (He.ga K "Store") "total")) "__get__" = some (some (.builtin "property.__get__")) := of_decide_eq_true (c.b 68)
  have pt8 : PySem.W.takesIn K (.ref (He.ma K (He.ga K "Store") "total")) = some true := of_decide_eq_true (c.b 69)
  obtain ⟨rs8, pc8⟩ := DL.pf_ok (c.b 70)
  have v9 : DL.fnV K (DL.pfOf K (He.ma K (He.ga K "Store") "total")) = (some ("total", "Store.total", (defArgs s_Store_total), .stmts (defBody s_Store_total), (defScope s_Store_total), mainGlobals, [], builtinsNs) : He.FnW) := c.f 9 (d := fd9)
  obtain ⟨oc8, od8, kV8, dc8, pm8, an8, cd8, ct8, sl8, l8, c8⟩ := DL.fn_ok0 v9 (c.b 71)
  have k8 : PySem.W.keepIn K (.ref (DL.pfOf K (He.ma K (He.ga K "Store") "total"))) = true := (c.b 72)
  have a9 : PySem.W.nsIn K mainGlobals "require_size" = some (some (.ref (He.ga K "require_size"))) := of_decide_eq_true (c.b 73)
  have v10 : DL.fnV K (He.ga K "require_size") = (some ("require_size", "require_size", (defArgs s_require_size), .stmts (defBody s_require_size), (defScope s_require_size), mainGlobals, [], builtinsNs) : He.FnW) := c.f 10 (d := fd10)
  obtain ⟨oc9, od9, kV9, dc9, pm9, an9, cd9, ct9, sl9, l9, c9⟩ := DL.fn_ok0 v10 (c.b 74)
  have k9 : PySem.W.keepIn K (.ref (He.ga K "require_size")) = true := (c.b 75)
  have a10 : PySem.W.nsIn K mainGlobals "space_in" = some (some (.ref (He.ga K "space_in"))) := of_decide_eq_true (c.b 76)
  have v11 : DL.fnV K (He.ga K "space_in") = (some ("space_in", "space_in", (defArgs s_space_in), .stmts (defBody s_space_in), (defScope s_space_in), mainGlobals, [], builtinsNs) : He.FnW) := c.f 11 (d := fd11)
  obtain ⟨oc10, od10, kV10, dc10, pm10, an10, cd10, ct10, sl10, l10, c10⟩ := DL.fn_ok0 v11 (c.b 77)
  have k10 : PySem.W.keepIn K (.ref (He.ga K "space_in")) = true := (c.b 78)
  have a11 : PySem.W.findIn K (.ref (He.ga K "Store")) "units" = some (some (.ref (He.ma K (He.ga K "Store") "units"))) := of_decide_eq_true (c.b 79)
  have i11 : PySem.W.isFn K (.ref (He.ma K (He.ga K "Store") "units")) = true := (c.b 80)
  have v12 : DL.fnV K (He.ma K (He.ga K "Store") "units") = (some ("units", "Store.units", (defArgs s_Store_units), .stmts (defBody s_Store_units), (defScope s_Store_units), mainGlobals, [], builtinsNs) : He.FnW) := c.f 12 (d := fd12)
  obtain ⟨oc11, od11, kV11, dc11, pm11, an11, cd11, ct11, sl11, l11, c11⟩ := DL.fn_ok0 v12 (c.b 81)
  have k11 : PySem.W.keepIn K (.ref (He.ma K (He.ga K "Store") "units")) = true := (c.b 82)
  have a12 : PySem.W.nsIn K mainGlobals "_law_dice" = some (some (.ref (He.ga K "_law_dice"))) := of_decide_eq_true (c.b 83)
  have v13 : DL.fnV K (He.ga K "_law_dice") = (some ("_law_dice", "_law_dice", (defArgs s_law_dice), .stmts (defBody s_law_dice), (defScope s_law_dice), mainGlobals, [], builtinsNs) : He.FnW) := c.f 13 (d := fd13)
  obtain ⟨oc12, od12, kV12, dc12, pm12, an12, cd12, ct12, sl12, l12, c12⟩ := DL.fn_ok0 v13 (c.b 84)
  have k12 : PySem.W.keepIn K (.ref (He.ga K "_law_dice")) = true := (c.b 85)
  have a13 : PySem.W.findIn K (.ref (He.ga K "Store")) "__eq__" = some (some (.ref (He.ma K (He.ga K "Store") "__eq__"))) := of_decide_eq_true (c.b 86)
  have i13 : PySem.W.isFn K (.ref (He.ma K (He.ga K "Store") "__eq__")) = true := (c.b 87)
  have v14 : DL.fnV K (He.ma K (He.ga K "Store") "__eq__") = (some ("__eq__", "Store.__eq__", (defArgs s_Store_eq), .stmts (defBody s_Store_eq), (defScope s_Store_eq), mainGlobals, [], builtinsNs) : He.FnW) := c.f 14 (d := fd14)
  obtain ⟨oc13, od13, kV13, dc13, pm13, an13, cd13, ct13, sl13, l13, c13⟩ := DL.fn_ok0 v14 (c.b 88)
  have k13 : PySem.W.keepIn K (.ref (He.ma K (He.ga K "Store") "__eq__")) = true := (c.b 89)
  have a14 : PySem.W.findIn K (.ref (He.ga K "Store")) "rooms" = some (some (.ref (He.ma K (He.ga K "Store") "rooms"))) := of_decide_eq_true (c.b 90)
  have pg14 : PySem.W.specialIn K (.ref (He.ma K (He.ga K "Store") "rooms")) "__get__" = some (some (.builtin "property.__get__")) := of_decide_eq_true (c.b 91)
  have pt14 : PySem.W.takesIn K (.ref (He.ma K (He.ga K "Store") "rooms")) = some true := of_decide_eq_true (c.b 92)
  obtain ⟨rs14, pc14⟩ := DL.pf_ok (c.b 93)
  have v15 : DL.fnV K (DL.pfOf K (He.ma K (He.ga K "Store") "rooms")) = (some ("rooms", "Store.rooms", (defArgs s_Store_rooms), .stmts (defBody s_Store_rooms), (defScope s_Store_rooms), mainGlobals, [], builtinsNs) : He.FnW) := c.f 15 (d := fd15)
  obtain ⟨oc14, od14, kV14, dc14, pm14, an14, cd14, ct14, sl14, l14, c14⟩ := DL.fn_ok0 v15 (c.b 94)
  have k14 : PySem.W.keepIn K (.ref (DL.pfOf K (He.ma K (He.ga K "Store") "rooms"))) = true := (c.b 95)
  have a15 : PySem.W.nsIn K mainGlobals "_law_roll" = some (some (.ref (He.ga K "_law_roll"))) := of_decide_eq_true (c.b 96)
  have v16 : DL.fnV K (He.ga K "_law_roll") = (some ("_law_roll", "_law_roll", (defArgs s_law_roll), .stmts (defBody s_law_roll), (defScope s_law_roll), mainGlobals, [], builtinsNs) : He.FnW) := c.f 16 (d := fd16)
  obtain ⟨oc15, od15, kV15, dc15, pm15, an15, cd15, ct15, sl15, l15, c15⟩ := DL.fn_ok0 v16 (c.b 97)
  have k15 : PySem.W.keepIn K (.ref (He.ga K "_law_roll")) = true := (c.b 98)
  have a16 : PySem.W.nsIn K mainGlobals "_law_great" = some (some (.ref (He.ga K "_law_great"))) := of_decide_eq_true (c.b 99)
  have v17 : DL.fnV K (He.ga K "_law_great") = (some ("_law_great", "_law_great", (defArgs s_law_great), .stmts (defBody s_law_great), (defScope s_law_great), mainGlobals, [], builtinsNs) : He.FnW) := c.f 17 (d := fd17)
  obtain ⟨oc16, od16, kV16, dc16, pm16, an16, cd16, ct16, sl16, l16, c16⟩ := DL.fn_ok0 v17 (c.b 100)
  have k16 : PySem.W.keepIn K (.ref (He.ga K "_law_great")) = true := (c.b 101)
  have a17 : PySem.W.nsIn K mainGlobals "_law_pick" = some (some (.ref (He.ga K "_law_pick"))) := of_decide_eq_true (c.b 102)
  have v18 : DL.fnV K (He.ga K "_law_pick") = (some ("_law_pick", "_law_pick", (defArgs s_law_pick), .stmts (defBody s_law_pick), (defScope s_law_pick), mainGlobals, [], builtinsNs) : He.FnW) := c.f 18 (d := fd18)
  obtain ⟨oc17, od17, kV17, dc17, pm17, an17, cd17, ct17, sl17, l17, c17⟩ := DL.fn_ok0 v18 (c.b 103)
  have k17 : PySem.W.keepIn K (.ref (He.ga K "_law_pick")) = true := (c.b 104)
  have a18 : PySem.W.nsIn K mainGlobals "_law_great_store" = some (some (.ref (He.ga K "_law_great_store"))) := of_decide_eq_true (c.b 105)
  have v19 : DL.fnV K (He.ga K "_law_great_store") = (some ("_law_great_store", "_law_great_store", (defArgs s_law_great_store), .stmts (defBody s_law_great_store), (defScope s_law_great_store), mainGlobals, [], builtinsNs) : He.FnW) := c.f 19 (d := fd19)
  obtain ⟨oc18, od18, kV18, dc18, pm18, an18, cd18, ct18, sl18, l18, c18⟩ := DL.fn_ok0 v19 (c.b 106)
  have k18 : PySem.W.keepIn K (.ref (He.ga K "_law_great_store")) = true := (c.b 107)
  have a19 : PySem.W.nsIn K mainGlobals "_law_made_store" = some (some (.ref (He.ga K "_law_made_store"))) := of_decide_eq_true (c.b 108)
  have v20 : DL.fnV K (He.ga K "_law_made_store") = (some ("_law_made_store", "_law_made_store", (defArgs s_law_made_store), .stmts (defBody s_law_made_store), (defScope s_law_made_store), mainGlobals, [], builtinsNs) : He.FnW) := c.f 20 (d := fd20)
  obtain ⟨oc19, od19, kV19, dc19, pm19, an19, cd19, ct19, sl19, l19, c19⟩ := DL.fn_ok0 v20 (c.b 109)
  have k19 : PySem.W.keepIn K (.ref (He.ga K "_law_made_store")) = true := (c.b 110)
  have a20 : PySem.W.nsIn K mainGlobals "_law_merged" = some (some (.ref (He.ga K "_law_merged"))) := of_decide_eq_true (c.b 111)
  have v21 : DL.fnV K (He.ga K "_law_merged") = (some ("_law_merged", "_law_merged", (defArgs s_law_merged), .stmts (defBody s_law_merged), (defScope s_law_merged), mainGlobals, [], builtinsNs) : He.FnW) := c.f 21 (d := fd21)
  obtain ⟨oc20, od20, kV20, dc20, pm20, an20, cd20, ct20, sl20, l20, c20⟩ := DL.fn_ok0 v21 (c.b 112)
  have k20 : PySem.W.keepIn K (.ref (He.ga K "_law_merged")) = true := (c.b 113)
  have a21 : PySem.W.nsIn K mainGlobals "_law_small_store" = some (some (.ref (He.ga K "_law_small_store"))) := of_decide_eq_true (c.b 114)
  have v22 : DL.fnV K (He.ga K "_law_small_store") = (some ("_law_small_store", "_law_small_store", (defArgs s_law_small_store), .stmts (defBody s_law_small_store), (defScope s_law_small_store), mainGlobals, [], builtinsNs) : He.FnW) := c.f 22 (d := fd22)
  obtain ⟨oc21, od21, kV21, dc21, pm21, an21, cd21, ct21, sl21, l21, c21⟩ := DL.fn_ok0 v22 (c.b 115)
  have k21 : PySem.W.keepIn K (.ref (He.ga K "_law_small_store")) = true := (c.b 116)
  have a22 : PySem.W.findIn K (.ref (He.ga K "Store")) "__contains__" = some (some (.ref (He.ma K (He.ga K "Store") "__contains__"))) := of_decide_eq_true (c.b 117)
  have i22 : PySem.W.isFn K (.ref (He.ma K (He.ga K "Store") "__contains__")) = true := (c.b 118)
  have v23 : DL.fnV K (He.ma K (He.ga K "Store") "__contains__") = (some ("__contains__", "Store.__contains__", (defArgs s_Store_contains), .stmts (defBody s_Store_contains), (defScope s_Store_contains), mainGlobals, [], builtinsNs) : He.FnW) := c.f 23 (d := fd23)
  obtain ⟨oc22, od22, kV22, dc22, pm22, an22, cd22, ct22, sl22, l22, c22⟩ := DL.fn_ok0 v23 (c.b 119)
  have k22 : PySem.W.keepIn K (.ref (He.ma K (He.ga K "Store") "__contains__")) = true := (c.b 120)
  have a23 : PySem.W.findIn K (.ref (He.ga K "Store")) "__iter__" = some (some (.ref (He.ma K (He.ga K "Store") "__iter__"))) := of_decide_eq_true (c.b 121)
  have i23 : PySem.W.isFn K (.ref (He.ma K (He.ga K "Store") "__iter__")) = true := (c.b 122)
  have v24 : DL.fnV K (He.ma K (He.ga K "Store") "__iter__") = (some ("__iter__", "Store.__iter__", (defArgs s_Store_iter), .stmts (defBody s_Store_iter), (defScope s_Store_iter), mainGlobals, [], builtinsNs) : He.FnW) := c.f 24 (d := fd24)
  obtain ⟨oc23, od23, kV23, dc23, pm23, an23, cd23, ct23, sl23, l23, c23⟩ := DL.fn_ok0 v24 (c.b 123)
  have k23 : PySem.W.keepIn K (.ref (He.ma K (He.ga K "Store") "__iter__")) = true := (c.b 124)
  have a24 : PySem.W.findIn K (.ref (He.ga K "Store")) "__len__" = some (some (.ref (He.ma K (He.ga K "Store") "__len__"))) := of_decide_eq_true (c.b 125)
  have i24 : PySem.W.isFn K (.ref (He.ma K (He.ga K "Store") "__len__")) = true := (c.b 126)
  have v25 : DL.fnV K (He.ma K (He.ga K "Store") "__len__") = (some ("__len__", "Store.__len__", (defArgs s_Store_len), .stmts (defBody s_Store_len), (defScope s_Store_len), mainGlobals, [], builtinsNs) : He.FnW) := c.f 25 (d := fd25)
  obtain ⟨oc24, od24, kV24, dc24, pm24, an24, cd24, ct24, sl24, l24, c24⟩ := DL.fn_ok0 v25 (c.b 127)
  have k24 : PySem.W.keepIn K (.ref (He.ma K (He.ga K "Store") "__len__")) = true := (c.b 128)
  have a25 : PySem.W.findIn K (.ref (He.ga K "Store")) "greatest" = some (some (.ref (He.ma K (He.ga K "Store") "greatest"))) := of_decide_eq_true (c.b 129)
  have pg25 : PySem.W.specialIn K (.ref (He.ma K (He.ga K "Store") "greatest")) "__get__" = some (some (.builtin "property.__get__")) := of_decide_eq_true (c.b 130)
  have pt25 : PySem.W.takesIn K (.ref (He.ma K (He.ga K "Store") "greatest")) = some true := of_decide_eq_true (c.b 131)
  obtain ⟨rs25, pc25⟩ := DL.pf_ok (c.b 132)
  have v26 : DL.fnV K (DL.pfOf K (He.ma K (He.ga K "Store") "greatest")) = (some ("greatest", "Store.greatest", (defArgs s_Store_greatest), .stmts (defBody s_Store_greatest), (defScope s_Store_greatest), mainGlobals, [], builtinsNs) : He.FnW) := c.f 26 (d := fd26)
  obtain ⟨oc25, od25, kV25, dc25, pm25, an25, cd25, ct25, sl25, l25, c25⟩ := DL.fn_ok0 v26 (c.b 133)
  have k25 : PySem.W.keepIn K (.ref (DL.pfOf K (He.ma K (He.ga K "Store") "greatest"))) = true := (c.b 134)
  have a26 : PySem.W.findIn K (.ref (He.ga K "Store")) "lines" = some (some (.ref (He.ma K (He.ga K "Store") "lines"))) := of_decide_eq_true (c.b 135)
  have pg26 : PySem.W.specialIn K (.ref (He.ma K (He.ga K "Store") "lines")) "__get__" = some (some (.builtin "property.__get__")) := of_decide_eq_true (c.b 136)
  have pt26 : PySem.W.takesIn K (.ref (He.ma K (He.ga K "Store") "lines")) = some true := of_decide_eq_true (c.b 137)
  obtain ⟨rs26, pc26⟩ := DL.pf_ok (c.b 138)
  have v27 : DL.fnV K (DL.pfOf K (He.ma K (He.ga K "Store") "lines")) = (some ("lines", "Store.lines", (defArgs s_Store_lines), .stmts (defBody s_Store_lines), (defScope s_Store_lines), mainGlobals, [], builtinsNs) : He.FnW) := c.f 27 (d := fd27)
  obtain ⟨oc26, od26, kV26, dc26, pm26, an26, cd26, ct26, sl26, l26, c26⟩ := DL.fn_ok0 v27 (c.b 139)
  have k26 : PySem.W.keepIn K (.ref (DL.pfOf K (He.ma K (He.ga K "Store") "lines"))) = true := (c.b 140)
  have a27 : PySem.W.nsIn K mainGlobals "_law_space" = some (some (.ref (He.ga K "_law_space"))) := of_decide_eq_true (c.b 141)
  have v28 : DL.fnV K (He.ga K "_law_space") = (some ("_law_space", "_law_space", (defArgs s_law_space), .stmts (defBody s_law_space), (defScope s_law_space), mainGlobals, [], builtinsNs) : He.FnW) := c.f 28 (d := fd28)
  obtain ⟨oc27, od27, kV27, dc27, pm27, an27, cd27, ct27, sl27, l27, c27⟩ := DL.fn_ok0 v28 (c.b 142)
  have k27 : PySem.W.keepIn K (.ref (He.ga K "_law_space")) = true := (c.b 143)
  have a28 : PySem.W.nsIn K mainGlobals "_law_told_right" = some (some (.ref (He.ga K "_law_told_right"))) := of_decide_eq_true (c.b 144)
  have v29 : DL.fnV K (He.ga K "_law_told_right") = (some ("_law_told_right", "_law_told_right", (defArgs s_law_told_right), .stmts (defBody s_law_told_right), (defScope s_law_told_right), mainGlobals, [], builtinsNs) : He.FnW) := c.f 29 (d := fd29)
  obtain ⟨oc28, od28, kV28, dc28, pm28, an28, cd28, ct28, sl28, l28, c28⟩ := DL.fn_ok0 v29 (c.b 145)
  have k28 : PySem.W.keepIn K (.ref (He.ga K "_law_told_right")) = true := (c.b 146)
  have a29 : PySem.W.nsIn K mainGlobals "_law_long_chain" = some (some (.ref (He.ga K "_law_long_chain"))) := of_decide_eq_true (c.b 147)
  have v30 : DL.fnV K (He.ga K "_law_long_chain") = (some ("_law_long_chain", "_law_long_chain", (defArgs s_law_long_chain), .stmts (defBody s_law_long_chain), (defScope s_law_long_chain), mainGlobals, [], builtinsNs) : He.FnW) := c.f 30 (d := fd30)
  obtain ⟨oc29, od29, kV29, dc29, pm29, an29, cd29, ct29, sl29, l29, c29⟩ := DL.fn_ok0 v30 (c.b 148)
  have k29 : PySem.W.keepIn K (.ref (He.ga K "_law_long_chain")) = true := (c.b 149)
  have a30 : PySem.W.nsIn K mainGlobals "_law_wild_sizes" = some (some (.ref (He.ga K "_law_wild_sizes"))) := of_decide_eq_true (c.b 150)
  have v31 : DL.fnV K (He.ga K "_law_wild_sizes") = (some ("_law_wild_sizes", "_law_wild_sizes", (defArgs s_law_wild_sizes), .stmts (defBody s_law_wild_sizes), (defScope s_law_wild_sizes), mainGlobals, [], builtinsNs) : He.FnW) := c.f 31 (d := fd31)
  obtain ⟨oc30, od30, kV30, dc30, pm30, an30, cd30, ct30, sl30, l30, c30⟩ := DL.fn_ok0 v31 (c.b 151)
  have k30 : PySem.W.keepIn K (.ref (He.ga K "_law_wild_sizes")) = true := (c.b 152)
  have a31 : PySem.W.nsIn K mainGlobals "_law_right" = some (some (.ref (He.ga K "_law_right"))) := of_decide_eq_true (c.b 153)
  have v32 : DL.fnV K (He.ga K "_law_right") = (some ("_law_right", "_law_right", (defArgs s_law_right), .stmts (defBody s_law_right), (defScope s_law_right), mainGlobals, [], builtinsNs) : He.FnW) := c.f 32 (d := fd32)
  obtain ⟨oc31, od31, kV31, dc31, pm31, an31, cd31, ct31, sl31, l31, c31⟩ := DL.fn_ok0 v32 (c.b 154)
  have k31 : PySem.W.keepIn K (.ref (He.ga K "_law_right")) = true := (c.b 155)
  have a32 : PySem.W.nsIn K mainGlobals "law" = some (some (.ref (He.ga K "law"))) := of_decide_eq_true (c.b 156)
  have v33 : DL.fnV K (He.ga K "law") = (some ("law", "law", (defArgs s_law), .stmts (defBody s_law), (defScope s_law), mainGlobals, [], builtinsNs) : He.FnW) := c.f 33 (d := fd33)
  obtain ⟨oc32, od32, kV32, dc32, pm32, an32, cd32, ct32, sl32, l32, c32⟩ := DL.fn_ok0 v33 (c.b 157)
  have k32 : PySem.W.keepIn K (.ref (He.ga K "law")) = true := (c.b 158)
  have z_abs : PySem.W.nsIn K mainGlobals "abs" = some none := of_decide_eq_true (c.b 159)
  have z_all : PySem.W.nsIn K mainGlobals "all" = some none := of_decide_eq_true (c.b 160)
  have z_any : PySem.W.nsIn K mainGlobals "any" = some none := of_decide_eq_true (c.b 161)
  have z_bool : PySem.W.nsIn K mainGlobals "bool" = some none := of_decide_eq_true (c.b 162)
  have z_int : PySem.W.nsIn K mainGlobals "int" = some none := of_decide_eq_true (c.b 163)
  have z_isinstance : PySem.W.nsIn K mainGlobals "isinstance" = some none := of_decide_eq_true (c.b 164)
  have z_iter : PySem.W.nsIn K mainGlobals "iter" = some none := of_decide_eq_true (c.b 165)
  have z_len : PySem.W.nsIn K mainGlobals "len" = some none := of_decide_eq_true (c.b 166)
  have z_list : PySem.W.nsIn K mainGlobals "list" = some none := of_decide_eq_true (c.b 167)
  have z_max : PySem.W.nsIn K mainGlobals "max" = some none := of_decide_eq_true (c.b 168)
  have z_min : PySem.W.nsIn K mainGlobals "min" = some none := of_decide_eq_true (c.b 169)
  have z_range : PySem.W.nsIn K mainGlobals "range" = some none := of_decide_eq_true (c.b 170)
  have z_repr : PySem.W.nsIn K mainGlobals "repr" = some none := of_decide_eq_true (c.b 171)
  have z_set : PySem.W.nsIn K mainGlobals "set" = some none := of_decide_eq_true (c.b 172)
  have z_sorted : PySem.W.nsIn K mainGlobals "sorted" = some none := of_decide_eq_true (c.b 173)
  have z_str : PySem.W.nsIn K mainGlobals "str" = some none := of_decide_eq_true (c.b 174)
  have z_sum : PySem.W.nsIn K mainGlobals "sum" = some none := of_decide_eq_true (c.b 175)
  have z_tuple : PySem.W.nsIn K mainGlobals "tuple" = some none := of_decide_eq_true (c.b 176)
  obtain ⟨t_LIMIT, g_LIMIT⟩ := DL.ci_ok (c.b 177)
  obtain ⟨t_MAX_RUNS, g_MAX_RUNS⟩ := DL.ci_ok (c.b 178)
  exact all_mk X G hfa n_Row ct_Row ki_Row n_Store ct_Store ki_Store kk2 kk3 kk4 no_Row_own_runs no_Store_own_runs en_Store eo_Store ff_Store fo n_InvalidNumber xc_InvalidNumber xb_InvalidNumber xsa_InvalidNumber xga_InvalidNumber xgg_InvalidNumber xno_InvalidNumber xi_InvalidNumber xt_InvalidNumber xk_InvalidNumber xe_InvalidNumber xy_InvalidNumber xh_InvalidNumber xl_InvalidNumber xcd_InvalidNumber n_InvalidStore xi_InvalidStore kp_InvalidStore sb_InvalidStore ty_InvalidStore a0 l0 c0 k0 a1 l1 c1 k1 a2 l2 c2 k2 a3 l3 c3 k3 a4 i4 mi_Store mk_Store l4 c4 k4 a5 pg5 pt5 pc5 l5 c5 k5 a6 i6 l6 c6 k6 a7 pg7 pt7 pc7 l7 c7 k7 a8 pg8 pt8 pc8 l8 c8 k8 a9 l9 c9 k9 a10 l10 c10 k10 a11 i11 l11 c11 k11 a12 l12 c12 k12 a13 i13 l13 c13 k13 a14 pg14 pt14 pc14 l14 c14 k14 a15 l15 c15 k15 a16 l16 c16 k16 a17 l17 c17 k17 a18 l18 c18 k18 a19 l19 c19 k19 a20 l20 c20 k20 a21 l21 c21 k21 a22 i22 l22 c22 k22 a23 i23 l23 c23 k23 a24 i24 l24 c24 k24 a25 pg25 pt25 pc25 l25 c25 k25 a26 pg26 pt26 pc26 l26 c26 k26 a27 l27 c27 k27 a28 l28 c28 k28 a29 l29 c29 k29 a30 l30 c30 k30 a31 l31 c31 k31 a32 l32 c32 k32 z_abs z_all z_any z_bool z_int z_isinstance z_iter z_len z_list z_max z_min z_range z_repr z_set z_sorted z_str z_sum z_tuple g_LIMIT g_MAX_RUNS
end DL.Law
open PySem PySem.W PyProof.Rows
set_option maxRecDepth 100000 in
set_option maxHeartbeats 0 in
theorem PySem.Challenge.cw_chainpacks_k14_stores_told_holds : PySem.Challenge.rw_chainpacks_k14_stores_told.Holds := by
  w_on; o_law
  refine HandSHeadRun.head_any (r := PySem.W.OpenLaw.row PySem.Challenge.rw_chainpacks_k14_stores_told) (q := PySem.W.view (PySem.W.OpenLaw.row PySem.Challenge.rw_chainpacks_k14_stores_told).prog [36]) (H := DL.Law.hk) (ob := DL.obM 0 DL.Law.FNS DL.Law.EX) (M := 40000) (loose := DL.Law.loose) (d := HandSHeadRun.topDef (PySem.W.OpenLaw.row PySem.Challenge.rw_chainpacks_k14_stores_told).prog 36) (kwd := []) DL.obM_eq
    (by kernel_rfl) (fun s => by kernel_rfl) DL.Law.run (by kernel_rfl) (by kernel_rfl) (by kernel_rfl) (by rfl) (by first | assumption | decide +kernel) (by decide +kernel) ⟨rfl, rfl, rfl, rfl, rfl, by decide +kernel⟩ ?hw ?hc
  case hw => w_witness2
  case hc =>
    letI : DL.TabsC := ⟨[]⟩
    refine DL.walkDE (l := PySem.Challenge.rw_chainpacks_k14_stores_told) (m := DL.Law.m_law) (k := 8) rfl (by decide +kernel) rfl (by kernel_rfl) ⟨rfl, by decide, by decide⟩ DL.Law.law_true ?F
    intro w mg fa h Y G hmg0
    obtain ⟨K, KX, c⟩ := Y
    have hmg : mg ("law" : PySem.Str) = some (.ref fa) := by
      have e : (HandSHeadRun.topDef (PySem.W.OpenLaw.row PySem.Challenge.rw_chainpacks_k14_stores_told).prog 36).name = ("law" : PySem.Str) := by kernel_rfl
      rw [← e]
      exact hmg0
    exact ⟨K, KX, DL.Law.head_mk KX G hmg c⟩
#print axioms PySem.Challenge.cw_chainpacks_k14_stores_told_holds
